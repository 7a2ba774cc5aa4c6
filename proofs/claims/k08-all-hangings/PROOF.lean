import PyProof.Rows.All
import HandS.HeadHook4
import HandS.ForMost
import HandS.ForExc
import HandS.Conv
import HandS.HeadHook1
import HandS.Lambda
import KE.KeyNested
import PyProof.DictKind
import PyProof.DictRoadsH
import HandS.Dict
import HandS.List
import HandS.Walk
import HandS.IsInst
import HandS.Flow
import HandS.Wide
import HandS.TupAny
import HandS.Deep
import HandS.Strs
import KE.DataCmp
import KE.GoesEnum
import HandS.Zip
import HandS.Exc
import HandS.Iter
import HandS.Defaults
import HandS.DictComp
import HandS.Words
import HandS.ExcInit
import HandS.Nested
import KE.KExcSuper
import HandS.TryMany
import HandS.ExcField
import PyProof.Rows.SetFrom
import HandS.Small
import HandS.Style
import HandS.DeepEq
import KE.KOpsOwn
import PyProof.InstNe
import HandS.ListEq
import HandS.SortInts
import HandS.TupLen
import PyProof.Rows.TupDisplay
import HandS.HeadNt
import HandS.HeadWalk
import HandS.Codes
import HandS.RaiseMore
import PyProof.EqAt
import PyProof.NeKinds
import HandS.GenOver
import HandS.GenList
import HandS.SortKw
import KE.DataMinMax
import KE.KDictWalk
import HandS.ListItems
import KE.KDictPairs
import KE.KDictList
import HandS.SetFor
import HandS.OwnEq
import HandS.Text
import HandS.HeadHook3
import HandS.Ends
import Wide.All
import OpenK.AllK
import Wide.FinOn
import KE.KStateDown
import HandS.WordsExc
import HandS.More
import HandS.Head0
import HandS.Head1
import HandS.Head2
import HandS.HeadEnd
import PySem.Challenge.RW_cookcalls_k08_whole_all_hangings
set_option Elab.async false
set_option linter.all false
set_option maxRecDepth 100000
set_option maxHeartbeats 0
namespace HX
open PySem L2
/-- the statements of a class -/
def inCls (st : Stmt) : List Stmt := match st with
  | .ClassDef _ _ _ b _ _ _ _ _ _ _ => b
  | _ => []
end HX
namespace ES
open PySem PySem.Spec PyProof.Rows L2
abbrev VI := "ValueError.__init__"
end ES
namespace HX
open PySem L2 He
def oexK (K : PySem.W.Frag) (C : Addr) : Bool := match K.lookup C with
  | some ⟨.type "type", _, .cls cd, sl⟩ => (match cd.mro, sl.toList with
    | .ref C' :: bm, [_, _, _, _, some (.builtin n), _] => (decide (C' = C) && decide (n = "ValueError.__new__")) && ((!cd.hasDel && cd.hasDict) && PySem.HandSPX.refsVE bm)
    | _, _ => false)
  | _ => false
def oexB (K : PySem.W.Frag) (C : Addr) : Bool := oexK K C && (decide (PySem.W.findIn K (.ref C) "__setattr__" = some (some (.builtin "object.__setattr__"))) && (decide (PySem.W.subIn K (.ref C) (.type "BaseException") = some true) && (decide (PySem.W.typeIn K (.ref C) = some (.type "type")) && PySem.W.keepIn K (.ref C))))
abbrev FnE : Type := Option (Str × Str × Arguments × FuncBody × Scope × Addr × List Str × Addr × Bool)
def plainD (fd : FuncData) : Bool := decide (fd.defaults = .none) && (decide (fd.kwdefaults = .none) && fd.annotations.isNone)
def fnE (K : PySem.W.Frag) (f : Addr) : FnE := match K.lookup f with
  | some ⟨_, _, .func fd, _⟩ => some (fd.name, fd.qualname, fd.params, fd.body, fd.scope, fd.globals, fd.closure.map (·.1), fd.builtins, plainD fd)
  | _ => none
/-- its code object, the cell of its class -/
def codB (P : Program) (K : PySem.W.Frag) (C f : Addr) (q : Str) : Bool := match K.lookup f with
  | some ⟨_, _, .func fd, _⟩ => (match fd.code with
    | .ref c => PySem.W.codeIn K (.ref c) q && (match K.lookup c with
      | some ⟨_, _, .fields vs, _⟩ => (match (vs[2]? : Option Value) with
        | some (.str fl _) => (P.main.file : Str) == fl
        | _ => false)
      | _ => false)
    | _ => false) && (match fd.closure with
    | [(_, cc)] => (match K.lookup cc with
      | some ⟨_, _, .cell (some (.ref C')), _⟩ => decide (C' = C)
      | _ => false)
    | _ => false)
  | _ => false
structure ErrD where
  x : Str
  qual : Str
  params : Arguments
  body : List Stmt
  scope : Scope
  fl : List Str
def ErrD.f (K : PySem.W.Frag) (d : ErrD) : Addr := ma K (ga K d.x) "__init__"
def ErrD.val (d : ErrD) : FnE := some ("__init__", d.qual, d.params, .stmts d.body, d.scope, mainGlobals, ["__class__"], builtinsNs, true)
def ErrD.ok (P : Program) (K : PySem.W.Frag) (d : ErrD) : Bool := (eqO (PySem.W.nsIn K mainGlobals d.x) (some (some (.ref (ga K d.x)))) && oexB K (ga K d.x)) && ((eqO (PySem.W.findIn K (.ref (ga K d.x)) "__init__") (some (some (.ref (d.f K)))) && decide (PySem.W.typeIn K (.ref (d.f K)) = some (.type "function"))) &&
  ((codB P K (ga K d.x) (d.f K) d.qual && decide (PySem.W.mroIn K (ga K d.x) (.ref (ga K d.x)) = some true)) && ((decide (PySem.W.ks_superIn K (ga K d.x) (ga K d.x) "__init__" = some (some (.builtin ES.VI))) && decide (PySem.W.subIn K (.ref (ga K d.x)) (.type "ValueError") = some true)) &&
  (eqO (PySem.W.nsIn K cStatics "thirdparty.any") (some none) && d.fl.all fun g => eqO (PySem.W.findIn K (.ref (ga K d.x)) g) (some none)))))
/-- the addresses looked at -/
def addN1 (p : List Addr × List Addr) (a : Addr) : List Addr × List Addr := match p.1.any (Nat.beq a) with
  | true => p
  | false => (a :: p.1, a :: p.2)
def leafE (o : Obj) : List Addr := match o.data with
  | .func fd => refV fd.code
  | _ => []
def kidsE (o : Obj) : List Addr := match o.data with
  | .func fd => refV fd.defaults ++ refV fd.kwdefaults ++ fd.closure.map (·.2)
  | _ => refsD o
def addL1 (p : List Addr × List Addr) (a : Addr) : List Addr × List Addr := (a :: p.1, p.2)
def bfsD (g : Addr → Option Obj) : Nat → List Addr → List Addr → List Addr
  | 0, _, seen => seen
  | n + 1, fr, seen => match fr.foldl (fun p a => match g a with
      | some o => (leafE o).foldl addL1 ((kidsE o).foldl addN1 p)
      | none => p) (seen, []) with
    | (seen', new) => bfsD g n new seen'
def asE (g : Addr → Option Obj) (n : Nat) : List Addr := bfsD g n [mainGlobals, cStatics] [mainGlobals, cStatics, sysModules]
abbrev AlE : Type := AlD × Bool × List FnE
def obsE (P : Program) (n : Nat) (fa : List Fa) (fn : List DefD) (er : List ErrD) (tf : List Defn) (ex : PySem.W.Frag → Bool) (g : Addr → Option Obj) : AlE :=
  (obsD fa fn (frT g (asE g n)), (ex (frT g (asE g n)) && er.all fun e => e.ok P (frT g (asE g n))) && tabsB g tf (frT g (asE g n)), er.map fun e => fnE (frT g (asE g n)) (e.f (frT g (asE g n))))
def valE (fn : List DefD) (er : List ErrD) : AlE := (valD fn, true, er.map ErrD.val)
def fnS (K : PySem.W.Frag) (d : He5.DefA) : He.FnW := He5.fnA K (d.at_ K)
abbrev AlS : Type := AlE × Bool × List He.FnW
def obsS (P : Program) (n : Nat) (fa : List Fa) (fn : List DefD) (er : List ErrD) (tf : List Defn) (ex : PySem.W.Frag → Bool) (sf : List He5.DefA) (g : Addr → Option Obj) : AlS :=
  (obsE P n fa fn er tf ex g, sf.all fun d => d.ok (frT g (asE g n)), sf.map (fnS (frT g (asE g n))))
def valS (fn : List DefD) (er : List ErrD) (sf : List He5.DefA) : AlS := (valE fn er, true, sf.map He5.DefA.val)
end HX
namespace DL
open PySem PySem.Spec PyProof.Rows L2
def insB (K : PySem.W.Frag) (C : Addr) : Bool := decide (PySem.W.findIn K (.ref C) "__class__" = some (some (.builtin "object.__class__"))) && (decide (PySem.W.specialIn K (.builtin "object.__class__") "__get__" = some (some (.builtin "getset_descriptor.__get__"))) && (decide (PySem.W.takesIn K (.builtin "object.__class__") = some true) && (decide (PySem.W.mroIn K C (.type "object") = some true) && decide (PySem.W.kitOne K (.ref C) (.ref C) = some true))))
end DL
namespace DL.K08
open PySem PySem.Spec PyProof.Rows L2 HX
def top (i : Nat) : Stmt := PySem.Challenge.pw_cookcalls_k08_whole_all_hangings.main.body.getD i (.Pass ⟨0, 0, 0, 0⟩)
def mth (i j : Nat) : Stmt := (inCls (top i)).getD j (.Pass ⟨0, 0, 0, 0⟩)
def dF (i : Nat) (x : Str) (dfl : List He.Dv) : He.DefD := ⟨(x, none), x, x, defArgs (top i), defBody (top i), defScope (top i), dfl, []⟩
def dM (i j : Nat) (c m q : Str) (dfl : List He.Dv) : He.DefD := ⟨(c, some m), m, q, defArgs (mth i j), defBody (mth i j), defScope (mth i j), dfl, []⟩
def sf : List He5.DefA := []
def eD (i j : Nat) (x q : Str) (fl : List Str) : ErrD := ⟨x, q, defArgs (mth i j), defBody (mth i j), defScope (mth i j), fl⟩
def fn : List He.DefD := [dF 19 "_law_fresh" [], dF 20 "_law_take" [], dF 22 "_law_mix" [], dF 24 "_law_names" [], dF 23 "_law_some" [], dF 21 "_law_one" [], dF 9 "is_name" [], dF 12 "is_anchor" [], dF 10 "rising" [], dF 13 "way_up" [], dF 14 "round_from" [], dF 15 "check_rounds" [], dM 16 0 "Hanging" "__init__" "Hanging.__init__" [], dF 17 "hangings" [], dM 16 1 "Hanging" "rows" "Hanging.rows" [], dF 29 "_law_found" [], dF 25 "_law_rising" [], dF 26 "_law_with" [], dF 28 "_law_is_tree" [], dF 27 "_law_trees" [], dF 30 "law" []]
def fa : List He.Fa := [.glo "_law_fresh", .glo "_law_take", .glo "_law_mix", .glo "_law_names", .glo "_law_some", .glo "_law_one", .glo "is_name", .glo "is_anchor", .glo "rising", .glo "way_up", .glo "round_from", .glo "check_rounds", .glo "hangings", .glo "_law_found", .glo "_law_rising", .glo "_law_with", .glo "_law_is_tree", .glo "_law_trees", .glo "law", .free "abs", .free "all", .free "dict", .free "enumerate", .free "int", .free "isinstance", .free "len", .free "list", .free "range", .free "str", .free "super", .free "tuple", .str "CLOCK" "clock", .str "LETTERS" "abcdefghijklmnopqrstuvwxyz", .int "MOST_LETTERS" 8, .glo "Hanging", .cls "Hanging", .mkr "Hanging", .meth "Hanging" "rows", .noat "Hanging" "anchors"]
def er : List ErrD := [eD 3 0 "BadRow" "BadRow.__init__" ["name"], eD 4 0 "Round" "Round.__init__" ["names"]]
def tf : List He.Defn := []
def ex (K : PySem.W.Frag) : Bool := insB K (He.ga K "Hanging")
def loose : List Str := [("_wall" : Str), ("KitchenError" : Str), ("BadRow" : Str), ("Round" : Str), ("LETTERS" : Str), ("MOST_LETTERS" : Str), ("CLOCK" : Str), ("is_name" : Str), ("rising" : Str), ("is_anchor" : Str), ("way_up" : Str), ("round_from" : Str)] ++ [("check_rounds" : Str), ("Hanging" : Str), ("hangings" : Str), ("_law_fresh" : Str), ("_law_take" : Str), ("_law_one" : Str), ("_law_mix" : Str), ("_law_some" : Str), ("_law_names" : Str), ("_law_rising" : Str), ("_law_with" : Str), ("_law_trees" : Str)] ++ [("_law_is_tree" : Str), ("_law_found" : Str)]
abbrev R : PySem.W.OpenRow := PySem.W.OpenLaw.row PySem.Challenge.rw_cookcalls_k08_whole_all_hangings
def ob (s : PySem.W.SharedT) : AlS := obsS R.prog 6 fa fn er tf ex sf (HandSHeadRun.getT s)
abbrev vw : Program := PySem.W.view R.prog [30]
noncomputable abbrev endS (w : World) (os : OsState) : Option PySem.W.SharedT := HandSHeadRun.endF (HandSHeadRun.stepQ (HandSHeadRun.denQ HandSHeadRun.tabQ) R.prog w) 20000 R.prog w os
open HandSHeadRun PySem.W in
theorem run_a (w : World) (os : OsState) : (endS w os).map (fun s => looksF R.prog (boot_heap w.params) s.abs) = some true := by
  kernel_rfl
open HandSHeadRun PySem.W in
theorem run_b (w : World) (os : OsState) : (endS w os).map (fun s => seenQ vw loose (importedModules R.prog.main.body) (fun s => xlAt vw [] s && recOk R.toRowW.records s) s.abs) = some (openGood vw loose) := by
  kernel_rfl
theorem run_c1 (w : World) (os : OsState) : (endS w os).map (fun s => (ob s).1.1.2) = some (valS fn er sf).1.1.2 := by
  kernel_rfl
theorem run_c2 (w : World) (os : OsState) : (endS w os).map (fun s => ((ob s).1.1.1, (ob s).1.2, (ob s).2)) = some ((valS fn er sf).1.1.1, (valS fn er sf).1.2, (valS fn er sf).2) := by
  kernel_rfl
end DL.K08
namespace HX
open PySem L2
end HX
namespace MD
open PySem SeqAt
/-! dicts whose keys are texts, numbers and tuples of such, side by side -/
abbrev NK := NestedKey
section
variable {P : Program} {w : World} {A : Around} {E : Value → Shared → Prop} {s : Shared} {es : Array DictEntry} {ks : List NK} {k : NK} {key : Value} {d : Addr} {o : Obj} {ep : Nat}
end
end MD
namespace MD
open PySem SeqAt
/-- entries: the key, the key's value, the value -/
abbrev Ent := NK × Value × Value
def entE (w : World) (x : Ent) : DictEntry := ⟨x.1.hash w, x.2.1, x.2.2⟩
/-- the dict at d -/
def Dic (w : World) (h : Heap) (d : Addr) (xs : List Ent) : Prop := ∃ (o : Obj) (es : Array DictEntry) (ep : Nat), h.get? d = some o ∧ o.ExactDict ∧ o.data = .dict es ep ∧ es.toList = xs.map (entE w) ∧ (xs.map (·.1)).Nodup
section
variable {P : Program} {w : World} {A : Around} {E : Value → Shared → Prop} {s : Shared} {xs : List Ent} {k : NK} {key : Value} {d : Addr}
end
end MD
namespace MD
open PySem PySem.Spec PyProof.Rows L2
/-- an entry: the key, the key's value, the value, without the heap -/
abbrev EntV := NK × V × V
def RelE (y : EntV) (x : Ent) : Prop := y.1 = x.1 ∧ RelV y.2.1 x.2.1 ∧ RelV y.2.2 x.2.2
/-- a dict of such keys -/
def MixP (w : World) (a : Addr) (ys : List EntV) (h : Heap) : Prop := ys.length ≤ sizeLine ∧ (a == sysModules) = false ∧ ∃ xs, Dic w h a xs ∧ Paired RelE ys xs
def MixO (w : World) (a : Addr) (ys : List EntV) : HO := .ext (MixP w a ys)
section
variable {w : World} {h h' : Heap} {a : Addr} {ys : List EntV} {xs : List Ent} {k : NK}
/-- a heap of like objects -/
def likeH (o : Obj) (n : Nat) : Heap := { objs := Array.replicate n o }
theorem like_get {o : Obj} {n : Nat} (hf : ∀ x y z, o ≠ ⟨x, y, .freed, z⟩) (b : Addr) : (likeH o n).get? b = if b < n then some o else none := by
  unfold likeH Heap.get?
  dsimp only
  rw [Array.getElem?_replicate]
  by_cases hb : b < n
  · rw [if_pos hb]
    split
    · rename_i e
      exact (hf _ _ _ (Option.some.inj e)).elim
    · rfl
  · rw [if_neg hb]
theorem mix_ne {c : Addr} {q : Str} : MixO w a ys ≠ LamX.CodeO c q := fun z => by
  unfold MixO LamX.CodeO at z
  have e := congrFun (HO.ext.inj z) (likeH { cls := .none, data := .fields #[.none, .str q 0] } (c + 1))
  have g := like_get (o := { cls := .none, data := .fields #[.none, .str q 0] }) (n := c + 1) (fun _ _ _ z => by cases z)
  have h2 : MixP w a ys (likeH { cls := .none, data := .fields #[.none, .str q 0] } (c + 1)) := by
    rw [e]
    refine ⟨_, _, 0, (g c).trans (if_pos (Nat.lt_succ_self c)), rfl, rfl⟩
  obtain ⟨_, _, xs, ⟨o, es, ep, ho, hc, hd, _⟩, _⟩ := h2
  rw [g a] at ho
  split at ho
  · cases ho
    cases hd
  · cases ho
end
section
variable {X : Cx} {pins : List (Addr × Obj)} {σ : L2.St} {H : Hp} {s : Shared} {a : Addr}
end
/-! rules -/
section
variable {X : Cx} {o i e value : Expr} {pos pos' tpos : Pos} {td ty tv : TE}
end
end MD
namespace DL
open PySem PySem.Spec PyProof.Rows L2
/-- the tables of code objects that are kept in sight: of each the name that its code objects bear -/
class TabC where
  T : List (Addr × Str)
  w : World
/-! data: a value without its addresses -/
abbrev AS := Addr → Prop
inductive D where
  | non | bl (b : Bool) | int (i : Int) | str (x : Str) | raw (v : V) | st
  | tup (xs : List D) | lst (xs : List D) | dic (kvs : List (Key × D)) | dmx (kvs : List (D × D)) | obj (C : Str) (fs : List (Str × D)) | exc (C : Str) (fs : List (Str × D))

mutual
def nkey : D → Option MD.NK
  | .str x => some (.text x)
  | .int i => some (.num i)
  | .non => some .none
  | .tup ds => (nkeys ds).map .tup
  | _ => none
def nkeys : List D → Option (List MD.NK)
  | [] => some []
  | d :: ds => (nkey d).bind fun k => (nkeys ds).map fun ks => k :: ks
end
variable [TabC]
/-- a tuple: tracked, or the module's own -/
def TpA (K : PySem.W.Frag) (H : Hp) (a : Addr) (xs : List V) : Prop :=
  H a = some (.tup xs) ∨ ∃ (o : Obj) (its : Array Value) (n : Nat), K.lookup a = some o ∧ o.cls = .type "tuple" ∧ o.data = .seq its n ∧ its.size ≤ sizeLine ∧ Vals xs its.toList
theorem TpA.sq {K : PySem.W.Frag} {H : Hp} {a : Addr} {xs : List V} (h : TpA K H a xs) : SqT K H a xs := h.elim (fun h => .inl (.inl h)) fun h => .inr h
/-- an exception object of the class cls, its dict at d, at a -/
def ExD (cls : Value) (d : Option Addr) (a : Addr) : HO := .ext fun h => ∃ (oe : Obj) (vs : Array Value), h.get? a = some oe ∧ Zc cls d oe ∧ oe.data = .fields vs
/-- an exception's dict, or an exception -/
inductive XO : HO → Prop
  | xd (ys : List (Str × V)) : XO (.xd ys)
  | ex (cls : Value) (d : Option Addr) (a : Addr) : XO (ExD cls d a)
theorem XO.nlst {u : HO} (h : XO u) : ∀ xs, u ≠ .lst xs := by
  cases h with
  | xd ys => exact fun _ z => nomatch z
  | ex c d a => exact fun _ z => by unfold ExD at z; cases z
theorem XO.nins {u : HO} (h : XO u) : ∀ C dx xs, u ≠ .ins C dx xs := by
  cases h with
  | xd ys => exact fun _ _ _ z => nomatch z
  | ex c d a => exact fun _ _ _ z => by unfold ExD at z; cases z
theorem XO.ndK {u : HO} (h : XO u) : ∀ xs, u ≠ .dK xs := by
  cases h with
  | xd ys => exact fun _ z => nomatch z
  | ex c d a => exact fun _ z => by unfold ExD at z; cases z
theorem XO.nfrz {u : HO} (h : XO u) : ∀ o xs, u ≠ .frz o xs := by
  cases h with
  | xd ys => exact fun _ _ z => nomatch z
  | ex c d a => exact fun _ _ z => by unfold ExD at z; cases z
mutual
def Rep (K : PySem.W.Frag) (aS : Addr) (H : Hp) (A : AS) : D → V → Prop
  | .non, v => v = .non
  | .bl b, v => v = .bl b
  | .int i, v => v = .int i
  | .str x, v => v = .str x
  | .raw u, v => v = u
  | .st, v => v = .ref aS
  | .tup ds, v => ∃ a xs, v = .ref a ∧ TpA K H a xs ∧ RepL K aS H A ds xs
  | .lst ds, v => ∃ a xs, v = .ref a ∧ ¬ A a ∧ H a = some (.lst xs) ∧ RepL K aS H A ds xs
  | .dic kvs, v => ∃ a ys, v = .ref a ∧ ¬ A a ∧ Rd H a (.dK ys) ∧ RepK K aS H A kvs ys
  | .dmx kvs, v => ∃ a ys, v = .ref a ∧ ¬ A a ∧ Rd H a (MD.MixO TabC.w a ys) ∧ RepP K aS H A kvs ys
  | .obj C fs, v => ∃ a dx ys, v = .ref a ∧ ¬ A a ∧ H a = some (.ins (He.ga K C) dx ys) ∧ RepF K aS H A fs ys
  | .exc C fs, v => ∃ a, v = .ref a ∧ ¬ A a ∧ ((H a = some (ExD (.ref (He.ga K C)) none a) ∧ fs = []) ∨ ∃ x ys, H a = some (ExD (.ref (He.ga K C)) (some x) a) ∧ ¬ A x ∧ H x = some (.xd ys) ∧ RepF K aS H A fs ys)
def RepP (K : PySem.W.Frag) (aS : Addr) (H : Hp) (A : AS) : List (D × D) → List MD.EntV → Prop
  | [], vs => vs = []
  | (k, d) :: ds, vs => ∃ nk kv v vr, vs = (nk, kv, v) :: vr ∧ (nkey k = some nk ∧ nk.depth ≤ 8) ∧ Rep K aS H A k kv ∧ Rep K aS H A d v ∧ RepP K aS H A ds vr
def RepL (K : PySem.W.Frag) (aS : Addr) (H : Hp) (A : AS) : List D → List V → Prop
  | [], vs => vs = []
  | d :: ds, vs => ∃ v vr, vs = v :: vr ∧ Rep K aS H A d v ∧ RepL K aS H A ds vr
def RepK (K : PySem.W.Frag) (aS : Addr) (H : Hp) (A : AS) : List (Key × D) → List (Key × V) → Prop
  | [], vs => vs = []
  | (k, d) :: ds, vs => ∃ v vr, vs = (k, v) :: vr ∧ Rep K aS H A d v ∧ RepK K aS H A ds vr
def RepF (K : PySem.W.Frag) (aS : Addr) (H : Hp) (A : AS) : List (Str × D) → List (Str × V) → Prop
  | [], vs => vs = []
  | (k, d) :: ds, vs => ∃ v vr, vs = (k, v) :: vr ∧ Rep K aS H A d v ∧ RepF K aS H A ds vr
end
section
variable {K : PySem.W.Frag} {aS : Addr} {H H' : Hp} {A A' : AS}
/-- what a heap's change must keep -/
structure Sub (K : PySem.W.Frag) (H H' : Hp) (A A' : AS) : Prop where
  l : ∀ a xs, ¬ A a → H a = some (.lst xs) → ¬ A' a ∧ H' a = some (.lst xs)
  t : ∀ a xs, TpA K H a xs → TpA K H' a xs
  d : ∀ a ys, ¬ A a → Rd H a (.dK ys) → ¬ A' a ∧ Rd H' a (.dK ys)
  m : ∀ a ys, ¬ A a → Rd H a (MD.MixO TabC.w a ys) → ¬ A' a ∧ Rd H' a (MD.MixO TabC.w a ys)
  o : ∀ a C dx ys, ¬ A a → H a = some (.ins C dx ys) → ¬ A' a ∧ H' a = some (.ins C dx ys)
  x : ∀ a u, XO u → ¬ A a → H a = some u → ¬ A' a ∧ H' a = some u
mutual
theorem Rep.mono (S : Sub K H H' A A') : ∀ (d : D) (v : V), Rep K aS H A d v → Rep K aS H' A' d v
  | .non, v, h => by rw [Rep] at h ⊢; exact h
  | .bl b, v, h => by rw [Rep] at h ⊢; exact h
  | .int i, v, h => by rw [Rep] at h ⊢; exact h
  | .str x, v, h => by rw [Rep] at h ⊢; exact h
  | .raw u, v, h => by rw [Rep] at h ⊢; exact h
  | .st, v, h => by rw [Rep] at h ⊢; exact h
  | .tup ds, v, h => by
    rw [Rep] at h ⊢
    obtain ⟨a, xs, e, q, r⟩ := h
    exact ⟨a, xs, e, S.t a xs q, RepL.mono S ds xs r⟩
  | .lst ds, v, h => by
    rw [Rep] at h ⊢
    obtain ⟨a, xs, e, n, q, r⟩ := h
    obtain ⟨n', q'⟩ := S.l a xs n q
    exact ⟨a, xs, e, n', q', RepL.mono S ds xs r⟩
  | .dic kvs, v, h => by
    rw [Rep] at h ⊢
    obtain ⟨a, ys, e, n, q, r⟩ := h
    obtain ⟨n', q'⟩ := S.d a ys n q
    exact ⟨a, ys, e, n', q', RepK.mono S kvs ys r⟩
  | .dmx kvs, v, h => by
    rw [Rep] at h ⊢
    obtain ⟨a, ys, e, n, q, r⟩ := h
    obtain ⟨n', q'⟩ := S.m a ys n q
    exact ⟨a, ys, e, n', q', RepP.mono S kvs ys r⟩
  | .obj C fs, v, h => by
    rw [Rep] at h ⊢
    obtain ⟨a, dx, ys, e, n, q, r⟩ := h
    obtain ⟨n', q'⟩ := S.o a _ dx ys n q
    exact ⟨a, dx, ys, e, n', q', RepF.mono S fs ys r⟩
  | .exc C fs, v, h => by
    rw [Rep] at h ⊢
    obtain ⟨a, e, n, h⟩ := h
    rcases h with ⟨h, z⟩ | ⟨x, ys, h, nx, hx, r⟩
    · obtain ⟨n', q'⟩ := S.x a _ (.ex _ _ _) n h
      exact ⟨a, e, n', .inl ⟨q', z⟩⟩
    · obtain ⟨n', q'⟩ := S.x a _ (.ex _ _ _) n h
      obtain ⟨nx', qx'⟩ := S.x x _ (.xd ys) nx hx
      exact ⟨a, e, n', .inr ⟨x, ys, q', nx', qx', RepF.mono S fs ys r⟩⟩
theorem RepP.mono (S : Sub K H H' A A') : ∀ (ds : List (D × D)) (vs : List MD.EntV), RepP K aS H A ds vs → RepP K aS H' A' ds vs
  | [], vs, h => by rw [RepP] at h ⊢; exact h
  | (k, d) :: ds, vs, h => by
    rw [RepP] at h ⊢
    obtain ⟨nk, kv, v, vr, e, z, rk, r, q⟩ := h
    exact ⟨nk, kv, v, vr, e, z, Rep.mono S k kv rk, Rep.mono S d v r, RepP.mono S ds vr q⟩
theorem RepL.mono (S : Sub K H H' A A') : ∀ (ds : List D) (vs : List V), RepL K aS H A ds vs → RepL K aS H' A' ds vs
  | [], vs, h => by rw [RepL] at h ⊢; exact h
  | d :: ds, vs, h => by
    rw [RepL] at h ⊢
    obtain ⟨v, vr, e, r, q⟩ := h
    exact ⟨v, vr, e, Rep.mono S d v r, RepL.mono S ds vr q⟩
theorem RepK.mono (S : Sub K H H' A A') : ∀ (ds : List (Key × D)) (vs : List (Key × V)), RepK K aS H A ds vs → RepK K aS H' A' ds vs
  | [], vs, h => by rw [RepK] at h ⊢; exact h
  | (k, d) :: ds, vs, h => by
    rw [RepK] at h ⊢
    obtain ⟨v, vr, e, r, q⟩ := h
    exact ⟨v, vr, e, Rep.mono S d v r, RepK.mono S ds vr q⟩
theorem RepF.mono (S : Sub K H H' A A') : ∀ (ds : List (Str × D)) (vs : List (Str × V)), RepF K aS H A ds vs → RepF K aS H' A' ds vs
  | [], vs, h => by rw [RepF] at h ⊢; exact h
  | (k, d) :: ds, vs, h => by
    rw [RepF] at h ⊢
    obtain ⟨v, vr, e, r, q⟩ := h
    exact ⟨v, vr, e, Rep.mono S d v r, RepF.mono S ds vr q⟩
end
end
end DL
namespace DL
open PySem PySem.Spec PyProof.Rows L2
variable [TabC]
abbrev Ev := List (Option D)
/-- the tables in sight -/
def TbA (H : Hp) : Prop := LamX.Tabs TabC.T H ∧ ∀ b ps, H b = some (.tbl ps) → True
/-- grown, by no table -/
def Gr (H H' : Hp) : Prop := (∀ b u, H b = some u → H' b = some u) ∧ ∀ b ps, H' b = some (.tbl ps) → H b = some (.tbl ps)
theorem Gr.refl (H : Hp) : Gr H H := ⟨fun _ _ h => h, fun _ _ h => h⟩
theorem Gr.upd {H : Hp} {p : Addr} {o : HO} (hp : H p = none) (ho : ∀ ps, o ≠ .tbl ps := by intro _ z; cases z) : Gr H (L2.upd H p o) := ⟨fun b u e => by rw [upd_ne (ne_of_none e hp)]; exact e, fun b ps e => by
  by_cases z : b = p
  · rw [z, upd_same] at e
    exact (ho _ (Option.some.inj e)).elim
  · rw [upd_ne z] at e
    exact e⟩
theorem Gr.trans {H H' H'' : Hp} (a : Gr H H') (b : Gr H' H'') : Gr H H'' := ⟨fun c u e => b.1 c u (a.1 c u e), fun c ps e => a.2 c ps (b.2 c ps e)⟩
/-- the state of the draws -/
def StA (K : PySem.W.Frag) (aS : Addr) (H : Hp) (n : Nat) : Prop := ∃ (a0 : Addr) (cs : List Int) (i g m d : Int), H aS = some (.lst [.ref a0, .int i, .int g, .int m, .int d]) ∧ a0 ≠ aS ∧
  (∃ o, H a0 = some (.frz o (.lst (cs.map V.int)))) ∧ 0 ≤ i ∧ 0 ≤ g ∧ 0 ≤ m ∧ m < 2147483647 ∧ 0 ≤ d ∧ d ≤ n ∧ TbA H
/-- a thing stays; a table of code objects may grow -/
def Kp1 (u : HO) (o : Option HO) : Prop := match u with
  | .tbl _ => ∃ ps, o = some (.tbl ps)
  | u => o = some u
theorem Kp1.of {u : HO} {o : Option HO} (h : o = some u) : Kp1 u o := by
  cases u with
  | tbl ps => exact ⟨ps, h⟩
  | _ => exact h
theorem Kp1.dom {u : HO} {o : Option HO} (h : Kp1 u o) : ∃ v, o = some v := by
  cases u with
  | tbl ps => exact h.elim fun p e => ⟨_, e⟩
  | _ => exact ⟨_, h⟩
theorem Kp1.trans {u : HO} {o p : Option HO} (h : Kp1 u o) (k : ∀ v, o = some v → Kp1 v p) : Kp1 u p := by
  cases u with
  | tbl ps =>
    obtain ⟨p1, e⟩ := h
    have z := k _ e
    exact z
  | _ => exact k _ h
theorem Kp1.xo {u : HO} {o : Option HO} (hu : XO u) (h : Kp1 u o) : o = some u := by
  cases hu with
  | xd ys => exact h
  | ex c d a => exact h
def KpS (aS : Addr) (H H' : Hp) : Prop := ∀ b u, H b = some u → b ≠ aS → Kp1 u (H' b)
/-- an exception: its class and fields -/
abbrev XD := Str × List (Str × D)
abbrev XQ := XD → Nat → Prop
abbrev EF : XK := fun _ _ _ => False
abbrev EM (α : Type) := XQ → Ev → Nat → (α → Nat → Prop) → Prop
/-- what the caller keeps for himself; the instance that slot 0 owns, in an __init__ -/
structure A0T where
  p : Addr → Prop
  z : Option Addr := none
instance : CoeFun A0T (fun _ => Addr → Prop) := ⟨A0T.p⟩
instance : Coe A0T (Addr → Prop) := ⟨A0T.p⟩
/-- what may not be met: what the caller keeps for himself, the state, what slots own -/
def AV (aS : Addr) (A0 : AS) (O : List Nat) (σ : L2.St) : AS := fun a => A0 a ∨ a = aS ∨ ∃ i, i ∈ O ∧ σ[i]? = some (some (.ref a))
/-- an own list | dict | instance -/
def Own (K : PySem.W.Frag) (aS : Addr) (H : Hp) (A : AS) (a : Addr) : D → Prop
  | .lst ds => ∃ xs, H a = some (.lst xs) ∧ RepL K aS H A ds xs
  | .dic kvs => ∃ ys, H a = some (.dK ys) ∧ RepK K aS H A kvs ys
  | .dmx kvs => ∃ ys, H a = some (MD.MixO TabC.w a ys) ∧ RepP K aS H A kvs ys
  | .obj C fs => ∃ dx ys, H a = some (.ins (He.ga K C) dx ys) ∧ RepF K aS H A fs ys
  | _ => False
structure SR (K : PySem.W.Frag) (aS : Addr) (O : List Nat) (A0 : A0T) (H0 : Hp) (σ : L2.St) (H : Hp) (s : Ev) (n : Nat) : Prop where
  len : σ.length = s.length
  sh : ∀ i d, s[i]? = some (some d) → i ∉ O → ∃ v, σ[i]? = some (some v) ∧ Rep K aS H (AV aS A0 O σ) d v
  ow : ∀ i, i ∈ O → ∃ d a, s[i]? = some (some d) ∧ σ[i]? = some (some (.ref a)) ∧ H0 a = none ∧ ¬ A0 a ∧ a ≠ aS ∧ Own K aS H (AV aS A0 O σ) a d
  ds : ∀ i j a, i ∈ O → j ∈ O → σ[i]? = some (some (.ref a)) → σ[j]? = some (some (.ref a)) → i = j
  fr : KpS aS H0 H
  st : StA K aS H n
  av : ∀ a, A0 a → ∃ u, H a = some u
  pn : 0 ∈ O → ∀ a, A0.z = some a → σ[0]? = some (some (.ref a))
section
variable {K : PySem.W.Frag} {aS : Addr} {H H' H'' H0 : Hp} {A A' : AS} {A0 : A0T} {O : List Nat} {σ : L2.St} {s : Ev} {n n' : Nat}
theorem KpS.refl : KpS aS H H := fun _ _ h _ => .of h
theorem KpS.trans (a : KpS aS H H') (b : KpS aS H' H'') : KpS aS H H'' := fun x u h n => (a x u h n).trans fun v e => b x v e n
theorem KpS.upd {p : Addr} {o : HO} (h : H p = none) : KpS aS H (upd H p o) := fun b u e _ => .of (by rw [upd_ne (ne_of_none e h)]; exact e)
theorem tabs_poke0 {T : List (Addr × Str)} {b : Addr} {o o' : HO} (t : LamX.Tabs T H) (hb : H b = some o) (n1 : ∀ ps, o ≠ .tbl ps) (n2 : ∀ c q, o ≠ LamX.CodeO c q) : LamX.Tabs T (upd H b o') := fun p hp => by
  obtain ⟨ps, h1, h2, h3⟩ := t p hp
  refine ⟨ps, by rw [upd_ne (fun z => by rw [z, hb] at h1; exact n1 _ (Option.some.inj h1))]; exact h1, h2, fun pos cv hc => ?_⟩
  obtain ⟨c, e1, e2⟩ := h3 pos cv hc
  exact ⟨c, e1, by rw [upd_ne (fun z => by rw [z, hb] at e2; exact n2 _ _ (Option.some.inj e2))]; exact e2⟩
theorem tabs_poke {b : Addr} {o o' : HO} (t : TbA H) (hb : H b = some o) (n1 : ∀ ps, o ≠ .tbl ps) (n2 : ∀ c q, o ≠ LamX.CodeO c q) (n3 : ∀ ps, o' ≠ .tbl ps := by intro _ z; cases z) : TbA (upd H b o') := ⟨tabs_poke0 t.1 hb n1 n2, fun c ps e => by
  by_cases z : c = b
  · rw [z, upd_same] at e
    exact (n3 _ (Option.some.inj e)).elim
  · rw [upd_ne z] at e
    exact t.2 c ps e⟩
theorem Own.plain {d : D} {a : Addr} {o : HO} (h : Own K aS H A a d) (ho : H a = some o) : (∀ ps, o ≠ .tbl ps) ∧ ∀ c q, o ≠ LamX.CodeO c q := by
  cases d with
  | lst ds => obtain ⟨xs, e, q⟩ := h; rw [ho] at e; cases e; exact ⟨(fun _ z => nomatch z), (fun c q z => by unfold LamX.CodeO at z; cases z)⟩
  | dic ds => obtain ⟨xs, e, q⟩ := h; rw [ho] at e; cases e; exact ⟨(fun _ z => nomatch z), (fun c q z => by unfold LamX.CodeO at z; cases z)⟩
  | dmx ds => obtain ⟨xs, e, q⟩ := h; rw [ho] at e; cases e; exact ⟨(fun ps z => by unfold MD.MixO at z; cases z), fun c q => MD.mix_ne⟩
  | obj C ds => obtain ⟨dx, xs, e, q⟩ := h; rw [ho] at e; cases e; exact ⟨(fun _ z => nomatch z), (fun c q z => by unfold LamX.CodeO at z; cases z)⟩
  | _ => exact h.elim
theorem KpS.lst (k : KpS aS H H') {a : Addr} {xs : List V} (h : H a = some (.lst xs)) (n : a ≠ aS) : H' a = some (.lst xs) := k _ (.lst xs) h n
theorem KpS.dk (k : KpS aS H H') {a : Addr} {xs : List (Key × V)} (h : H a = some (.dK xs)) (n : a ≠ aS) : H' a = some (.dK xs) := k _ (.dK xs) h n
theorem KpS.xo (k : KpS aS H H') {a : Addr} {u : HO} (hu : XO u) (h : H a = some u) (n : a ≠ aS) : H' a = some u := Kp1.xo hu (k a u h n)
theorem KpS.upd2 (k : KpS aS H H') {p : Addr} {o : HO} (hp : H p = none) : KpS aS H (L2.upd H' p o) := fun b u e z => (k b u e z).trans fun v e' => .of (by rw [upd_ne (ne_of_none e hp)]; exact e')
theorem KpS.gone (k : KpS aS H H') {a : Addr} {u : HO} (ha : H' a = none) (z : H a = some u) (hn : a ≠ aS) : False := by
  obtain ⟨v, e⟩ := (k a u z hn).dom
  rw [ha] at e
  cases e
theorem StA.lst (h : StA K aS H n) : ∃ xs, H aS = some (.lst xs) := by
  obtain ⟨a0, cs, i, g, m, d, e, _⟩ := h
  exact ⟨_, e⟩
theorem TpA.kp (k : KpS aS H H') {a : Addr} {xs ys : List V} (hs : H aS = some (.lst ys)) (h : TpA K H a xs) : TpA K H' a xs := by
  rcases h with h | h
  · exact .inl (k _ _ h fun e => by rw [e, hs] at h; cases h)
  · exact .inr h
theorem Rd.kp (k : KpS aS H H') {a : Addr} {ys : List (Key × V)} (hn : a ≠ aS) (h : Rd H a (.dK ys)) : Rd H' a (.dK ys) := by
  rcases h with h | ⟨o, h⟩
  · exact .inl (k _ (.dK ys) h hn)
  · exact .inr ⟨o, k _ (.frz o (.dK ys)) h hn⟩
theorem RdM.kp (k : KpS aS H H') {a b : Addr} {ys : List MD.EntV} (hn : a ≠ aS) (h : Rd H a (MD.MixO TabC.w b ys)) : Rd H' a (MD.MixO TabC.w b ys) := by
  rcases h with h | ⟨o, h⟩
  · exact .inl (k _ _ h hn)
  · exact .inr ⟨o, k _ (.frz o _) h hn⟩
theorem sub_kp (k : KpS aS H H') (hs : ∃ ys, H aS = some (.lst ys)) (hA : A aS) (hle : ∀ a, A' a → A a) : Sub K H H' A A' := by
  obtain ⟨ys, hs⟩ := hs
  have ne : ∀ a, ¬ A a → a ≠ aS := fun a h e => h (e ▸ hA)
  exact ⟨fun a xs h q => ⟨fun z => h (hle a z), k _ _ q (ne a h)⟩, fun a xs q => TpA.kp k hs q, fun a ys h q => ⟨fun z => h (hle a z), Rd.kp k (ne a h) q⟩, fun a ys h q => ⟨fun z => h (hle a z), RdM.kp k (ne a h) q⟩, fun a C dx ys h q => ⟨fun z => h (hle a z), k _ _ q (ne a h)⟩, fun a u hx h q => ⟨fun z => h (hle a z), k.xo hx q (ne a h)⟩⟩
theorem AV.st {A0 : AS} : AV aS A0 O σ aS := .inr (.inl rfl)
theorem Rep.kp (k : KpS aS H H') (hs : StA K aS H n) (hA : A aS) {d : D} {v : V} (r : Rep K aS H A d v) : Rep K aS H' A d v := Rep.mono (sub_kp k hs.lst hA fun _ z => z) d v r
theorem RepL.kp (k : KpS aS H H') (hs : StA K aS H n) (hA : A aS) {d : List D} {v : List V} (r : RepL K aS H A d v) : RepL K aS H' A d v := RepL.mono (sub_kp k hs.lst hA fun _ z => z) d v r
theorem RepK.kp (k : KpS aS H H') (hs : StA K aS H n) (hA : A aS) {d : List (Key × D)} {v : List (Key × V)} (r : RepK K aS H A d v) : RepK K aS H' A d v := RepK.mono (sub_kp k hs.lst hA fun _ z => z) d v r
theorem RepF.kp (k : KpS aS H H') (hs : StA K aS H n) (hA : A aS) {d : List (Str × D)} {v : List (Str × V)} (r : RepF K aS H A d v) : RepF K aS H' A d v := RepF.mono (sub_kp k hs.lst hA fun _ z => z) d v r
theorem RepP.kp (k : KpS aS H H') (hs : StA K aS H n) (hA : A aS) {d : List (D × D)} {v : List MD.EntV} (r : RepP K aS H A d v) : RepP K aS H' A d v := RepP.mono (sub_kp k hs.lst hA fun _ z => z) d v r
theorem Own.kp (k : KpS aS H H') (hs : StA K aS H n) (hA : A aS) {d : D} {a : Addr} (ha : a ≠ aS) (r : Own K aS H A a d) : Own K aS H' A a d := by
  cases d with
  | lst ds => obtain ⟨xs, e, q⟩ := r; exact ⟨xs, k _ _ e ha, q.kp k hs hA⟩
  | dic ds => obtain ⟨xs, e, q⟩ := r; exact ⟨xs, k _ _ e ha, q.kp k hs hA⟩
  | dmx ds => obtain ⟨xs, e, q⟩ := r; exact ⟨xs, k _ _ e ha, q.kp k hs hA⟩
  | obj C ds => obtain ⟨dx, xs, e, q⟩ := r; exact ⟨dx, xs, k _ _ e ha, q.kp k hs hA⟩
  | _ => exact r
/-- behind an expression -/
theorem SR.step (S : SR K aS O A0 H0 σ H s n) (k : KpS aS H H') (t : StA K aS H' n') : SR K aS O A0 H0 σ H' s n' where
  len := S.len
  sh := fun i d h1 h2 => let ⟨v, e, r⟩ := S.sh i d h1 h2; ⟨v, e, r.kp k S.st AV.st⟩
  ow := fun i h => let ⟨d, a, e1, e2, e3, e4, e5, e6⟩ := S.ow i h; ⟨d, a, e1, e2, e3, e4, e5, e6.kp k S.st AV.st e5⟩
  ds := S.ds
  fr := S.fr.trans k
  st := t
  av := fun a h => by
    obtain ⟨u, e⟩ := S.av a h
    by_cases ha : a = aS
    · obtain ⟨xs, q⟩ := t.lst
      exact ⟨_, ha ▸ q⟩
    · exact (k _ _ e ha).dom
  pn := S.pn
theorem SR.new (S : SR K aS O A0 H0 σ H s n) {a : Addr} (h : H a = none) : ¬ AV aS A0 O σ a := fun z => by
  rcases z with z | z | ⟨i, hi, z⟩
  · obtain ⟨u, e⟩ := S.av a z
    rw [h] at e; cases e
  · obtain ⟨xs, q⟩ := S.st.lst
    rw [z, q] at h; cases h
  · obtain ⟨d, b, e1, e2, e3, e4, e5, e6⟩ := S.ow i hi
    rw [z] at e2
    cases e2
    cases d with
    | lst ds => obtain ⟨xs, e, q⟩ := e6; rw [h] at e; cases e
    | dic ds => obtain ⟨xs, e, q⟩ := e6; rw [h] at e; cases e
    | dmx ds => obtain ⟨xs, e, q⟩ := e6; rw [h] at e; cases e
    | obj C ds => obtain ⟨dx, xs, e, q⟩ := e6; rw [h] at e; cases e
    | _ => exact e6.elim
end
/-- what is wanted of a raise -/
def LX (K : PySem.W.Frag) (E : XK) (aS : Addr) (A0 : AS) (H0 : Hp) (xq : XQ) : Prop :=
  ∀ (C : Str) (fs : List (Str × D)) (n : Nat) (d : Option Addr) (H' : Hp), KpS aS H0 H' → StA K aS H' n → (match d with | none => fs = [] | some a => ∃ ys, H0 a = none ∧ H' a = some (.xd ys) ∧ RepF K aS H' (AV aS A0 [] []) fs ys) → xq (C, fs) n → E (.ref (He.ga K C)) d H'
/-- .. its own place may be owned -/
def RepB (K : PySem.W.Frag) (aS : Addr) (H : Hp) (A : AS) : D → V → Prop
  | .lst ds, v => ∃ a xs, v = .ref a ∧ a ≠ aS ∧ H a = some (.lst xs) ∧ RepL K aS H A ds xs
  | .dic kvs, v => ∃ a ys, v = .ref a ∧ a ≠ aS ∧ Rd H a (.dK ys) ∧ RepK K aS H A kvs ys
  | .dmx kvs, v => ∃ a ys, v = .ref a ∧ a ≠ aS ∧ Rd H a (MD.MixO TabC.w a ys) ∧ RepP K aS H A kvs ys
  | .obj C fs, v => ∃ a dx ys, v = .ref a ∧ a ≠ aS ∧ H a = some (.ins (He.ga K C) dx ys) ∧ RepF K aS H A fs ys
  | d, v => Rep K aS H A d v
abbrev RK := PySem.W.Frag → Addr → Hp → AS → D → V → Prop
def Mn {α : Type} (m : EM α) : Prop := ∀ xq s n (Q Q' : α → Nat → Prop), (∀ d n', Q d n' → Q' d n') → m xq s n Q → m xq s n Q'
/-- an expression read over data -/
def VX (R : RK) (X : Cx) (E : XK) (O : List Nat) (e : Expr) (m : EM D) : Prop := Mn m ∧ ∃ t, PE X e t ∧ ∀ (aS : Addr) (A0 : A0T) (H0 : Hp) (σ : L2.St) (H : Hp) (s : Ev) (n : Nat) (xq : XQ) (Q : VK), SR X.K aS O A0 H0 σ H s n → LX X.K E aS A0 H0 xq →
  m xq s n (fun d n' => ∀ v H', KpS aS H H' → StA X.K aS H' n' → R X.K aS H' (AV aS A0 O σ) d v → Q v H') → t σ H Q
abbrev VE := VX Rep
abbrev VB := VX RepB
/-- .. a new object -/
def VF (X : Cx) (E : XK) (O : List Nat) (e : Expr) (m : EM D) : Prop := Mn m ∧ ∃ t, PE X e t ∧ ∀ (aS : Addr) (A0 : A0T) (H0 : Hp) (σ : L2.St) (H : Hp) (s : Ev) (n : Nat) (xq : XQ) (Q : VK), SR X.K aS O A0 H0 σ H s n → LX X.K E aS A0 H0 xq →
  m xq s n (fun d n' => ∀ a H', H a = none → KpS aS H H' → StA X.K aS H' n' → Own X.K aS H' (fun b => AV aS A0 O σ b ∨ b = a) a d → Q (.ref a) H') → t σ H Q
/-- a test -/
def VT (X : Cx) (E : XK) (O : List Nat) (e : Expr) (m : EM Bool) : Prop := Mn m ∧ ∃ t, PT X e t ∧ ∀ (aS : Addr) (A0 : A0T) (H0 : Hp) (σ : L2.St) (H : Hp) (s : Ev) (n : Nat) (xq : XQ) (Q : Bool → Hp → Prop), SR X.K aS O A0 H0 σ H s n → LX X.K E aS A0 H0 xq →
  m xq s n (fun b n' => ∀ H', KpS aS H H' → StA X.K aS H' n' → Q b H') → t σ H Q
/-- arguments -/
def RL (R : RK) (K : PySem.W.Frag) (aS : Addr) (H : Hp) (A : AS) : List D → List V → Prop
  | [], vs => vs = []
  | d :: ds, vs => ∃ v vr, vs = v :: vr ∧ R K aS H A d v ∧ RL R K aS H A ds vr
def VA (R : RK) (X : Cx) (E : XK) (O : List Nat) (es : List Expr) (m : EM (List D)) : Prop := Mn m ∧ ∃ t, PA X es t ∧ ∀ (aS : Addr) (A0 : A0T) (H0 : Hp) (σ : L2.St) (H : Hp) (s : Ev) (n : Nat) (xq : XQ) (Q : List V → Hp → Prop), SR X.K aS O A0 H0 σ H s n → LX X.K E aS A0 H0 xq →
  m xq s n (fun d n' => ∀ v H', KpS aS H H' → StA X.K aS H' n' → RL R X.K aS H' (AV aS A0 O σ) d v → Q v H') → t σ H Q
/-- statements -/
structure DE where
  nx : Ev → Nat → Prop
  rt : D → Nat → Prop
  bk : Ev → Nat → Prop := fun _ _ => False
  ct : Ev → Nat → Prop := fun _ _ => False
abbrev SM := XQ → DE → Ev → Nat → Prop
structure LK (K : PySem.W.Frag) (aS : Addr) (O OL : List Nat) (A0 : A0T) (H0 : Hp) (de : DE) (De : Ends) : Prop where
  nx : ∀ σ H s n, SR K aS O A0 H0 σ H s n → de.nx s n → De.nx σ H
  rt : ∀ v H d n, KpS aS H0 H → StA K aS H n → Rep K aS H (AV aS A0 [] []) d v → de.rt d n → De.rt v H
  bk : ∀ σ H s n, SR K aS OL A0 H0 σ H s n → de.bk s n → De.bk σ H
  ct : ∀ σ H s n, SR K aS OL A0 H0 σ H s n → de.ct s n → De.ct σ H
def VS (X : Cx) (E : XK) (O O' OL : List Nat) (st : Stmt) (m : SM) : Prop := ∃ t, PS X st t ∧ ∀ (aS : Addr) (A0 : A0T) (H0 : Hp) (σ : L2.St) (H : Hp) (s : Ev) (n : Nat) (xq : XQ) (de : DE) (De : Ends), SR X.K aS O A0 H0 σ H s n → LX X.K E aS A0 H0 xq →
  LK X.K aS O' OL A0 H0 de De → m xq de s n → t De σ H
def VSs (X : Cx) (E : XK) (O O' OL : List Nat) (st : List Stmt) (m : SM) : Prop := ∃ t, PSs X st t ∧ ∀ (aS : Addr) (A0 : A0T) (H0 : Hp) (σ : L2.St) (H : Hp) (s : Ev) (n : Nat) (xq : XQ) (de : DE) (De : Ends), SR X.K aS O A0 H0 σ H s n → LX X.K E aS A0 H0 xq →
  LK X.K aS O' OL A0 H0 de De → m xq de s n → t De σ H
end DL
namespace DL
open PySem PySem.Spec PyProof.Rows L2
variable [TabC]
section
variable {K : PySem.W.Frag} {aS : Addr} {H H' H'' H0 : Hp} {A A' : AS} {A0 : A0T} {O : List Nat} {σ : L2.St} {s : Ev} {n n' : Nat} {R : RK}
theorem StA.kp (k : Gr H H') (h : StA K aS H n) : StA K aS H' n := by
  obtain ⟨a0, cs, i, g, m, d, e, h1, ⟨o, h2⟩, h3, h4, h5, h6, h7, h8, h9⟩ := h
  exact ⟨a0, cs, i, g, m, d, k.1 _ _ e, h1, ⟨o, k.1 _ _ h2⟩, h3, h4, h5, h6, h7, h8, h9.1.ext k.1, fun b ps z => h9.2 b ps (k.2 b ps z)⟩
theorem StA.upd {p : Addr} {o : HO} (hp : H p = none) (h : StA K aS H n) (ho : ∀ ps, o ≠ .tbl ps := by intro _ z; cases z) : StA K aS (upd H p o) n := h.kp (Gr.upd hp ho)
theorem Rep.b (hA : A aS) {d : D} {v : V} (r : Rep K aS H A d v) : RepB K aS H A d v := by
  cases d with
  | lst ds => rw [Rep] at r; obtain ⟨a, xs, e, n, q⟩ := r; exact ⟨a, xs, e, fun z => n (z ▸ hA), q⟩
  | dic ds => rw [Rep] at r; obtain ⟨a, xs, e, n, q⟩ := r; exact ⟨a, xs, e, fun z => n (z ▸ hA), q⟩
  | dmx ds => rw [Rep] at r; obtain ⟨a, xs, e, n, q⟩ := r; exact ⟨a, xs, e, fun z => n (z ▸ hA), q⟩
  | obj C ds => rw [Rep] at r; obtain ⟨a, dx, xs, e, n, q⟩ := r; exact ⟨a, dx, xs, e, fun z => n (z ▸ hA), q⟩
  | _ => exact r
theorem RepB.kp (k : KpS aS H H') (hs : StA K aS H n) (hA : A aS) {d : D} {v : V} (r : RepB K aS H A d v) : RepB K aS H' A d v := by
  cases d with
  | lst ds => obtain ⟨a, xs, e, n, q, r⟩ := r; exact ⟨a, xs, e, n, k _ _ q n, r.kp k hs hA⟩
  | dic ds => obtain ⟨a, xs, e, n, q, r⟩ := r; exact ⟨a, xs, e, n, Rd.kp k n q, r.kp k hs hA⟩
  | dmx ds => obtain ⟨a, xs, e, n, q, r⟩ := r; exact ⟨a, xs, e, n, RdM.kp k n q, r.kp k hs hA⟩
  | obj C ds => obtain ⟨a, dx, xs, e, n, q, r⟩ := r; exact ⟨a, dx, xs, e, n, k _ _ q n, r.kp k hs hA⟩
  | non => exact Rep.kp k hs hA (d := .non) r
  | bl b => exact Rep.kp k hs hA (d := .bl b) r
  | int b => exact Rep.kp k hs hA (d := .int b) r
  | str b => exact Rep.kp k hs hA (d := .str b) r
  | raw b => exact Rep.kp k hs hA (d := .raw b) r
  | st => exact Rep.kp k hs hA (d := .st) r
  | tup b => exact Rep.kp k hs hA (d := .tup b) r
  | exc C b => exact Rep.kp k hs hA (d := .exc C b) r
/-- a relation that stays behind an expression -/
def Stb (R : RK) : Prop := ∀ (K : PySem.W.Frag) (aS : Addr) (H H' : Hp) (A : AS) (n : Nat) (d : D) (v : V), KpS aS H H' → StA K aS H n → A aS → R K aS H A d v → R K aS H' A d v
theorem stbE : Stb Rep := fun _ _ _ _ _ _ _ _ k hs hA r => r.kp k hs hA
theorem stbB : Stb RepB := fun _ _ _ _ _ _ _ _ k hs hA r => r.kp k hs hA
theorem RL.repL : ∀ {ds : List D} {vs : List V}, RL Rep K aS H A ds vs → RepL K aS H A ds vs
  | [], _, h => by rw [RepL]; exact h
  | d :: ds, vs, h => by
    obtain ⟨v, vr, e, r, q⟩ := h
    rw [RepL]
    exact ⟨v, vr, e, r, RL.repL q⟩
theorem RepL.rl : ∀ {ds : List D} {vs : List V}, RepL K aS H A ds vs → RL Rep K aS H A ds vs
  | [], _, h => by rw [RepL] at h; exact h
  | d :: ds, vs, h => by
    rw [RepL] at h
    obtain ⟨v, vr, e, r, q⟩ := h
    exact ⟨v, vr, e, r, RepL.rl q⟩
theorem RepL.length : ∀ {ds : List D} {vs : List V}, RepL K aS H A ds vs → vs.length = ds.length
  | [], _, h => by rw [RepL] at h; rw [h]; rfl
  | d :: ds, vs, h => by
    rw [RepL] at h
    obtain ⟨v, vr, e, r, q⟩ := h
    rw [e, List.length_cons, List.length_cons, RepL.length q]
theorem RepL.nil : RepL K aS H A [] [] := by rw [RepL]
theorem RepL.cons {d : D} {v : V} {ds : List D} {vs : List V} (r : Rep K aS H A d v) (q : RepL K aS H A ds vs) : RepL K aS H A (d :: ds) (v :: vs) := by rw [RepL]; exact ⟨v, vs, rfl, r, q⟩
theorem RepL.app : ∀ {ds es : List D} {vs ws : List V}, RepL K aS H A ds vs → RepL K aS H A es ws → RepL K aS H A (ds ++ es) (vs ++ ws)
  | [], _, _, _, h, q => by rw [RepL] at h; rw [h]; exact q
  | d :: ds, es, vs, ws, h, q => by
    rw [RepL] at h
    obtain ⟨v, vr, e, r, q'⟩ := h
    rw [e]
    exact RepL.cons r (RepL.app q' q)
theorem RepL.get : ∀ {ds : List D} {vs : List V} {i : Nat} {d : D}, RepL K aS H A ds vs → ds[i]? = some d → ∃ v, vs[i]? = some v ∧ Rep K aS H A d v
  | [], _, _, _, _, e => by simp at e
  | d :: ds, vs, 0, d', h, e => by
    rw [RepL] at h
    obtain ⟨v, vr, e1, r, q⟩ := h
    simp at e
    subst e
    exact ⟨v, by rw [e1]; rfl, r⟩
  | d :: ds, vs, i + 1, d', h, e => by
    rw [RepL] at h
    obtain ⟨v, vr, e1, r, q⟩ := h
    obtain ⟨w, e2, r2⟩ := RepL.get (i := i) q (by simpa using e)
    exact ⟨w, by rw [e1]; simpa using e2, r2⟩
theorem RepL.get' : ∀ {ds : List D} {vs : List V} {i : Nat} {v : V}, RepL K aS H A ds vs → vs[i]? = some v → ∃ d, ds[i]? = some d ∧ Rep K aS H A d v
  | [], _, _, _, h, e => by rw [RepL] at h; rw [h] at e; simp at e
  | d :: ds, vs, 0, d', h, e => by
    rw [RepL] at h
    obtain ⟨v, vr, e1, r, q⟩ := h
    rw [e1] at e
    simp at e
    subst e
    exact ⟨d, rfl, r⟩
  | d :: ds, vs, i + 1, d', h, e => by
    rw [RepL] at h
    obtain ⟨v, vr, e1, r, q⟩ := h
    rw [e1] at e
    obtain ⟨w, e2, r2⟩ := RepL.get' (i := i) q (by simpa using e)
    exact ⟨w, by simpa using e2, r2⟩
theorem RepL.take : ∀ {ds : List D} {vs : List V} (i : Nat), RepL K aS H A ds vs → RepL K aS H A (ds.take i) (vs.take i)
  | [], _, _, h => by rw [RepL] at h; rw [h]; simp; exact RepL.nil
  | d :: ds, vs, 0, h => by simp; exact RepL.nil
  | d :: ds, vs, i + 1, h => by
    rw [RepL] at h
    obtain ⟨v, vr, e1, r, q⟩ := h
    rw [e1, List.take_succ_cons, List.take_succ_cons]
    exact RepL.cons r (RepL.take i q)
theorem RepL.drop : ∀ {ds : List D} {vs : List V} (i : Nat), RepL K aS H A ds vs → RepL K aS H A (ds.drop i) (vs.drop i)
  | [], _, _, h => by rw [RepL] at h; rw [h]; simp; exact RepL.nil
  | d :: ds, vs, 0, h => by simpa using h
  | d :: ds, vs, i + 1, h => by
    rw [RepL] at h
    obtain ⟨v, vr, e1, r, q⟩ := h
    rw [e1, List.drop_succ_cons, List.drop_succ_cons]
    exact RepL.drop i q
theorem sub_le (hle : ∀ a, A' a → A a) : Sub K H H A A' := ⟨fun a xs h q => ⟨fun z => h (hle a z), q⟩, fun a xs q => q, fun a ys h q => ⟨fun z => h (hle a z), q⟩, fun a ys h q => ⟨fun z => h (hle a z), q⟩, fun a C dx ys h q => ⟨fun z => h (hle a z), q⟩, fun a u _ h q => ⟨fun z => h (hle a z), q⟩⟩
/-- a new object at p -/
theorem sub_new {p : Addr} {o : HO} (hp : H p = none) : Sub K H (upd H p o) A (fun b => A b ∨ b = p) := by
  have ne : ∀ b u, H b = some u → b ≠ p := fun b u e => ne_of_none e hp
  have up : ∀ b u, H b = some u → upd H p o b = some u := fun b u e => by rw [upd_ne (ne b u e)]; exact e
  refine ⟨fun a xs h q => ⟨fun z => z.elim h (ne a _ q), up _ _ q⟩, fun a xs q => q.elim (fun q => .inl (up _ _ q)) .inr, fun a ys h q => ?_, fun a ys h q => ?_, fun a C dx ys h q => ⟨fun z => z.elim h (ne a _ q), up _ _ q⟩, fun a u _ h q => ⟨fun z => z.elim h (ne a _ q), up _ _ q⟩⟩
  all_goals
    rcases q with q | ⟨u, q⟩
    · exact ⟨fun z => z.elim h (ne a _ q), .inl (up _ _ q)⟩
    · exact ⟨fun z => z.elim h (ne a _ q), .inr ⟨u, up _ _ q⟩⟩
/-- a list just laid -/
theorem own_new {p : Addr} {ds : List D} {xs : List V} (hp : H p = none) (r : RepL K aS H A ds xs) : Own K aS (upd H p (.lst xs)) (fun b => A b ∨ b = p) p (.lst ds) :=
  ⟨xs, upd_same, RepL.mono (sub_new hp) _ _ r⟩
end
/-! ### the readings -/
def eVar (i : Nat) : EM D := fun _ s n Q => ∃ d, s[i]? = some (some d) ∧ Q d n
def eC (d : D) : EM D := fun _ _ n Q => Q d n
def eNil : EM (List D) := fun _ _ n Q => Q [] n
def eCons (m : EM D) (r : EM (List D)) : EM (List D) := fun xq s n Q => m xq s n fun d n1 => r xq s n1 fun ds n2 => Q (d :: ds) n2
def eTup (m : EM (List D)) : EM D := fun xq s n Q => m xq s n fun ds n1 => ds.length ≤ 1000 ∧ Q (.tup ds) n1
def eLst (m : EM (List D)) : EM D := fun xq s n Q => m xq s n fun ds n1 => ds.length ≤ 1000 ∧ Q (.lst ds) n1
section
variable {X : Cx} {E : XK} {O : List Nat} {e : Expr} {es : List Expr} {m : EM D} {ml : EM (List D)} {pos : Pos} {R R' : RK}
theorem VX.imp (h : VX R X E O e m) (hR : ∀ K aS H A d v, A aS → R K aS H A d v → R' K aS H A d v) : VX R' X E O e m := by
  obtain ⟨mn, t, pe, f⟩ := h
  exact ⟨mn, t, pe, fun aS A0 H0 σ H s n xq Q S L hm => f aS A0 H0 σ H s n xq Q S L (mn _ _ _ _ _ (fun d n' q v H' k st r => q v H' k st (hR _ _ _ _ _ _ AV.st r)) hm)⟩
theorem VE.b (h : VE X E O e m) : VB X E O e m := VX.imp h fun _ _ _ _ _ _ hA r => r.b hA
theorem Own.mono {K : PySem.W.Frag} {aS a : Addr} {H : Hp} {A A' : AS} {d : D} (hle : ∀ b, A' b → A b) (h : Own K aS H A a d) : Own K aS H A' a d := by
  cases d with
  | lst ds => obtain ⟨xs, e, q⟩ := h; exact ⟨xs, e, RepL.mono (sub_le hle) _ _ q⟩
  | dic ds => obtain ⟨xs, e, q⟩ := h; exact ⟨xs, e, RepK.mono (sub_le hle) _ _ q⟩
  | dmx ds => obtain ⟨xs, e, q⟩ := h; exact ⟨xs, e, RepP.mono (sub_le hle) _ _ q⟩
  | obj C ds => obtain ⟨dx, xs, e, q⟩ := h; exact ⟨dx, xs, e, RepF.mono (sub_le hle) _ _ q⟩
  | _ => exact h.elim
theorem Own.rep0 {K : PySem.W.Frag} {aS a : Addr} {H : Hp} {A : AS} {d : D} (h : Own K aS H A a d) (ha : ¬ A a) : Rep K aS H A d (.ref a) := by
  cases d with
  | lst ds => obtain ⟨xs, e, q⟩ := h; rw [Rep]; exact ⟨a, xs, rfl, ha, e, q⟩
  | dic ds => obtain ⟨xs, e, q⟩ := h; rw [Rep]; exact ⟨a, xs, rfl, ha, .inl e, q⟩
  | dmx ds => obtain ⟨xs, e, q⟩ := h; rw [Rep]; exact ⟨a, xs, rfl, ha, .inl e, q⟩
  | obj C ds => obtain ⟨dx, xs, e, q⟩ := h; rw [Rep]; exact ⟨a, dx, xs, rfl, ha, e, q⟩
  | _ => exact h.elim
theorem Own.rep {K : PySem.W.Frag} {aS a : Addr} {H : Hp} {A : AS} {d : D} (h : Own K aS H (fun b => A b ∨ b = a) a d) (ha : ¬ A a) : Rep K aS H A d (.ref a) := (h.mono fun _ => .inl).rep0 ha
/-- what is not tracked is not avoided, if what is avoided is tracked -/
theorem VF.ve (h : VF X E O e m) : VE X E O e m := by
  obtain ⟨mn, t, pe, f⟩ := h
  refine ⟨mn, t, pe, fun aS A0 H0 σ H s n xq Q S L hm => f aS A0 H0 σ H s n xq Q S L (mn _ _ _ _ _ (fun d n' q a H' ha k st o => q _ H' k st (o.rep (S.new ha))) hm)⟩
theorem ve_var {i : Nat} {x : Str} (hi : i ∉ O) (hN : X.N[i]? = some x) (hv : Vis X.env.scope x) (hd : (x == ("__debug__" : Str)) = false := by decide) (hcd : (x == ("__classdict__" : Str)) = false := by decide) : VE X E O (.Name x pos) (eVar i) := by
  refine ⟨fun xq s n Q Q' hq ⟨d, e, q⟩ => ⟨d, e, hq _ _ q⟩, _, pe_var hN hv hd hcd, fun aS A0 H0 σ H s n xq Q S L hm => ?_⟩
  obtain ⟨d, e, q⟩ := hm
  obtain ⟨v, ev, r⟩ := S.sh i d e hi
  exact ⟨v, ev, q v H KpS.refl S.st r⟩
theorem vb_var {i : Nat} {x : Str} (hi : i ∈ O) (hN : X.N[i]? = some x) (hv : Vis X.env.scope x) (hd : (x == ("__debug__" : Str)) = false := by decide) (hcd : (x == ("__classdict__" : Str)) = false := by decide) : VB X E O (.Name x pos) (eVar i) := by
  refine ⟨fun xq s n Q Q' hq ⟨d, e, q⟩ => ⟨d, e, hq _ _ q⟩, _, pe_var hN hv hd hcd, fun aS A0 H0 σ H s n xq Q S L hm => ?_⟩
  obtain ⟨d, e, q⟩ := hm
  obtain ⟨d', a, e1, e2, e3, e4, e5, e6⟩ := S.ow i hi
  rw [e] at e1
  cases e1
  refine ⟨_, e2, q _ H KpS.refl S.st ?_⟩
  cases d with
  | lst ds => obtain ⟨xs, e, q⟩ := e6; exact ⟨a, xs, rfl, e5, e, q⟩
  | dic ds => obtain ⟨xs, e, q⟩ := e6; exact ⟨a, xs, rfl, e5, .inl e, q⟩
  | dmx ds => obtain ⟨xs, e, q⟩ := e6; exact ⟨a, xs, rfl, e5, .inl e, q⟩
  | obj C ds => obtain ⟨dx, xs, e, q⟩ := e6; exact ⟨a, dx, xs, rfl, e5, e, q⟩
  | _ => exact e6.elim
end
end DL
namespace DL
open PySem PySem.Spec PyProof.Rows L2
variable [TabC]
structure Cn (K : PySem.W.Frag) (aS : Addr) (H : Hp) (A : AS) (n : Nat) : Prop where
  a : A aS
  dom : ∀ a, A a → ∃ u, H a = some u
  st : StA K aS H n
theorem SR.cn {K : PySem.W.Frag} {aS : Addr} {H H0 : Hp} {A0 : A0T} {O : List Nat} {σ : L2.St} {s : Ev} {n : Nat} (S : SR K aS O A0 H0 σ H s n) : Cn K aS H (AV aS A0 O σ) n :=
  ⟨AV.st, fun a h => by
    cases e : H a with
    | none => exact (S.new e h).elim
    | some u => exact ⟨u, rfl⟩, S.st⟩
theorem Cn.new {K : PySem.W.Frag} {aS p : Addr} {H : Hp} {A : AS} {n : Nat} (c : Cn K aS H A n) (h : H p = none) : ¬ A p := fun z => by
  obtain ⟨u, e⟩ := c.dom p z
  rw [h] at e; cases e
/-- a binary operation by data -/
def OpD (X : Cx) (g : Value → Value → Sem Value) (f : D → D → Option D) : Prop := ∃ r, OpR X g r ∧ ∀ (aS : Addr) (H : Hp) (A : AS) (n : Nat) (d1 d2 d : D) (v1 v2 : V) (Q : VK), Cn X.K aS H A n → RepB X.K aS H A d1 v1 → RepB X.K aS H A d2 v2 → f d1 d2 = some d →
  (∀ v H', KpS aS H H' → StA X.K aS H' n → Rep X.K aS H' A d v → Q v H') → r v1 v2 H Q
def eBin (f : D → D → Option D) (a b : EM D) : EM D := fun xq s n Q => a xq s n fun x n1 => b xq s n1 fun y n2 => ∃ d, f x y = some d ∧ Q d n2
def eBinT (f : D → D → Option D) (a b : EM D) : EM Bool := fun xq s n Q => a xq s n fun x n1 => b xq s n1 fun y n2 => ∃ k, f x y = some (.bl k) ∧ Q k n2
def eBlt (f : List D → Option D) (a : EM (List D)) : EM D := fun xq s n Q => a xq s n fun x n1 => ∃ d, f x = some d ∧ Q d n1
/-- a call by data -/
def CallD (X : Cx) (g : Value) (f : List D → Option D) : Prop := ∃ r, CallR X g r ∧ ∀ (aS : Addr) (H : Hp) (A : AS) (n : Nat) (ds : List D) (d : D) (vs : List V) (Q : VK), Cn X.K aS H A n → RL RepB X.K aS H A ds vs → f ds = some d →
  (∀ v H', KpS aS H H' → StA X.K aS H' n → Rep X.K aS H' A d v → Q v H') → r vs H Q
def CallF (X : Cx) (g : Value) (f : List D → Option D) : Prop := ∃ r, CallR X g r ∧ ∀ (aS : Addr) (H : Hp) (A : AS) (n : Nat) (ds : List D) (d : D) (vs : List V) (Q : VK), Cn X.K aS H A n → RL RepB X.K aS H A ds vs → f ds = some d →
  (∀ a H', H a = none → KpS aS H H' → StA X.K aS H' n → Own X.K aS H' (fun b => A b ∨ b = a) a d → Q (.ref a) H') → r vs H Q
section
variable {X : Cx} {E : XK} {O : List Nat} {a b e : Expr} {es : List Expr} {ma mb m : EM D} {ml : EM (List D)} {pos : Pos} {R R' : RK}
theorem mn_bin {f : D → D → Option D} (h1 : Mn ma) (h2 : Mn mb) : Mn (eBin f ma mb) := fun xq s n Q Q' hq h => h1 _ _ _ _ _ (fun d1 n1 h => h2 _ _ _ _ _ (fun d2 n2 ⟨d, e, q⟩ => ⟨d, e, hq _ _ q⟩) h) h
theorem mn_binT {f : D → D → Option D} (h1 : Mn ma) (h2 : Mn mb) : Mn (eBinT f ma mb) := fun xq s n Q Q' hq h => h1 _ _ _ _ _ (fun d1 n1 h => h2 _ _ _ _ _ (fun d2 n2 ⟨d, e, q⟩ => ⟨d, e, hq _ _ q⟩) h) h
theorem ve_bin {op : Operator} {f : D → D → Option D} (h : OpD X (binaryOp op) f) (ha : VB X E O a ma) (hb : VB X E O b mb) : VE X E O (.BinOp a op b pos) (eBin f ma mb) := by
  obtain ⟨mna, ta, pa, fa⟩ := ha
  obtain ⟨mnb, tb, pb, fb⟩ := hb
  obtain ⟨r, ho, hr⟩ := h
  refine ⟨mn_bin mna mnb, _, pe_op ho pa pb, fun aS A0 H0 σ H s n xq Q S L hm => ?_⟩
  refine fa aS A0 H0 σ H s n xq _ S L (mna _ _ _ _ _ (fun d1 n1 q v1 H1 k1 st1 r1 => ?_) hm)
  refine fb aS A0 H0 σ H1 s n1 xq _ (S.step k1 st1) L (mnb _ _ _ _ _ (fun d2 n2 q2 v2 H2 k2 st2 r2 => ?_) q)
  obtain ⟨d, e, q2⟩ := q2
  exact hr aS H2 _ n2 d1 d2 d v1 v2 Q (S.step (k1.trans k2) st2).cn (r1.kp k2 st1 AV.st) r2 e fun v H' k st r => q2 v H' ((k1.trans k2).trans k) st r
theorem ve_cmp {op : CmpOp} {f : D → D → Option D} (h : OpD X (compareOp op) f) (ha : VB X E O a ma) (hb : VB X E O b mb) (hm : behindInMarks op b = false) : VE X E O (.Compare a [op] [b] pos) (eBin f ma mb) := by
  obtain ⟨mna, ta, pa, fa⟩ := ha
  obtain ⟨mnb, tb, pb, fb⟩ := hb
  obtain ⟨r, ho, hr⟩ := h
  refine ⟨mn_bin mna mnb, _, pe_cmpR ho pa pb hm, fun aS A0 H0 σ H s n xq Q S L hm => ?_⟩
  refine fa aS A0 H0 σ H s n xq _ S L (mna _ _ _ _ _ (fun d1 n1 q v1 H1 k1 st1 r1 => ?_) hm)
  refine fb aS A0 H0 σ H1 s n1 xq _ (S.step k1 st1) L (mnb _ _ _ _ _ (fun d2 n2 q2 v2 H2 k2 st2 r2 => ?_) q)
  obtain ⟨d, e, q2⟩ := q2
  exact hr aS H2 _ n2 d1 d2 d v1 v2 Q (S.step (k1.trans k2) st2).cn (r1.kp k2 st1 AV.st) r2 e fun v H' k st r => q2 v H' ((k1.trans k2).trans k) st r
theorem vt_cmp {op : CmpOp} {f : D → D → Option D} (h : OpD X (compareOp op) f) (ha : VB X E O a ma) (hb : VB X E O b mb) (hm : behindInMarks op b = false) : VT X E O (.Compare a [op] [b] pos) (eBinT f ma mb) := by
  obtain ⟨mna, ta, pa, fa⟩ := ha
  obtain ⟨mnb, tb, pb, fb⟩ := hb
  obtain ⟨r, ho, hr⟩ := h
  refine ⟨mn_binT mna mnb, _, pt_cmpR ho pa pb hm, fun aS A0 H0 σ H s n xq Q S L hm => ?_⟩
  refine fa aS A0 H0 σ H s n xq _ S L (mna _ _ _ _ _ (fun d1 n1 q v1 H1 k1 st1 r1 => ?_) hm)
  refine fb aS A0 H0 σ H1 s n1 xq _ (S.step k1 st1) L (mnb _ _ _ _ _ (fun d2 n2 q2 v2 H2 k2 st2 r2 => ?_) q)
  obtain ⟨c, e, q2⟩ := q2
  refine hr aS H2 _ n2 d1 d2 _ v1 v2 _ (S.step (k1.trans k2) st2).cn (r1.kp k2 st1 AV.st) r2 e fun v H' k st r => ?_
  rw [Rep] at r
  exact ⟨c, r, q2 H' ((k1.trans k2).trans k) st⟩
theorem va_nil : VA R X E O [] eNil := ⟨fun xq s n Q Q' hq h => hq _ _ h, _, pa_nil, fun aS A0 H0 σ H s n xq Q S L hm => hm [] H KpS.refl S.st rfl⟩
theorem mn_cons {m : EM D} {r : EM (List D)} (h1 : Mn m) (h2 : Mn r) : Mn (eCons m r) := fun xq s n Q Q' hq h => h1 _ _ _ _ _ (fun d1 n1 h => h2 _ _ _ _ _ (fun d2 n2 q => hq _ _ q) h) h
theorem va_cons (hR : Stb R) (he : VX R X E O e m) (hr : VA R X E O es ml) (hs : starEach (e :: es) X.env = (false, eval e X.env) :: starEach es X.env := by rfl) : VA R X E O (e :: es) (eCons m ml) := by
  obtain ⟨mna, ta, pa, fa⟩ := he
  obtain ⟨mnb, tb, pb, fb⟩ := hr
  refine ⟨mn_cons mna mnb, _, pa_cons pa pb hs, fun aS A0 H0 σ H s n xq Q S L hm => ?_⟩
  refine fa aS A0 H0 σ H s n xq _ S L (mna _ _ _ _ _ (fun d1 n1 q v1 H1 k1 st1 r1 => ?_) hm)
  refine fb aS A0 H0 σ H1 s n1 xq _ (S.step k1 st1) L (mnb _ _ _ _ _ (fun d2 n2 q2 v2 H2 k2 st2 r2 => ?_) q)
  exact q2 _ H2 (k1.trans k2) st2 ⟨v1, v2, rfl, hR _ _ _ _ _ _ _ _ k2 st1 AV.st r1, r2⟩
theorem mn_blt {f : List D → Option D} (h : Mn ml) : Mn (eBlt f ml) := fun xq s n Q Q' hq w => h _ _ _ _ _ (fun ds n1 ⟨d, e, q⟩ => ⟨d, e, hq _ _ q⟩) w
theorem ve_callB {x : Str} {id : String} {p : Pos} {f : List D → Option D} (h : CallD X (.builtin id) f) (hg : Gl X x) (hm : X.mg x = none) (hv : bootBuiltins x = some (.builtin id)) (ha : VA RepB X E O (e :: es) ml) (hn : x ≠ "__name__" := by decide) (hdb : (x == ("__debug__" : Str)) = false := by decide)
    (hs : starEach (e :: es) X.env = (false, eval e X.env) :: starEach es X.env := by rfl) (hpl : (backTo pos (starEach es X.env)).any (·.1) = false := by rfl) : VE X E O (.Call (.Name x p) (e :: es) [] pos) (eBlt f ml) := by
  obtain ⟨mna, ta, pa, fa⟩ := ha
  obtain ⟨r, ho, hr⟩ := h
  refine ⟨mn_blt mna, _, pe_callB ho hg hm hv pa hn hdb hs hpl, fun aS A0 H0 σ H s n xq Q S L hm => ?_⟩
  refine fa aS A0 H0 σ H s n xq _ S L (mna _ _ _ _ _ (fun ds n1 q vs H1 k1 st1 r1 => ?_) hm)
  obtain ⟨d, e, q⟩ := q
  exact hr aS H1 _ n1 ds d vs Q (S.step k1 st1).cn r1 e fun v H' k st r => q v H' (k1.trans k) st r
theorem ve_callTy {x : Str} {id : String} {p : Pos} {f : List D → Option D} (h : CallD X (.type id) f) (hg : Gl X x) (hm : X.mg x = none) (hv : bootBuiltins x = some (.type id)) (ha : VA RepB X E O (e :: es) ml) (hn : x ≠ "__name__" := by decide) (hdb : (x == ("__debug__" : Str)) = false := by decide)
    (hs : starEach (e :: es) X.env = (false, eval e X.env) :: starEach es X.env := by rfl) (hpl : (backTo pos (starEach es X.env)).any (·.1) = false := by rfl) : VE X E O (.Call (.Name x p) (e :: es) [] pos) (eBlt f ml) := by
  obtain ⟨mna, ta, pa, fa⟩ := ha
  obtain ⟨r, ho, hr⟩ := h
  refine ⟨mn_blt mna, _, pe_callTy ho hg hm hv pa hn hdb hs hpl, fun aS A0 H0 σ H s n xq Q S L hm => ?_⟩
  refine fa aS A0 H0 σ H s n xq _ S L (mna _ _ _ _ _ (fun ds n1 q vs H1 k1 st1 r1 => ?_) hm)
  obtain ⟨d, e, q⟩ := q
  exact hr aS H1 _ n1 ds d vs Q (S.step k1 st1).cn r1 e fun v H' k st r => q v H' (k1.trans k) st r
theorem vf_callTy {x : Str} {id : String} {p : Pos} {f : List D → Option D} (h : CallF X (.type id) f) (hg : Gl X x) (hm : X.mg x = none) (hv : bootBuiltins x = some (.type id)) (ha : VA RepB X E O (e :: es) ml) (hn : x ≠ "__name__" := by decide) (hdb : (x == ("__debug__" : Str)) = false := by decide)
    (hs : starEach (e :: es) X.env = (false, eval e X.env) :: starEach es X.env := by rfl) (hpl : (backTo pos (starEach es X.env)).any (·.1) = false := by rfl) : VF X E O (.Call (.Name x p) (e :: es) [] pos) (eBlt f ml) := by
  obtain ⟨mna, ta, pa, fa⟩ := ha
  obtain ⟨r, ho, hr⟩ := h
  refine ⟨mn_blt mna, _, pe_callTy ho hg hm hv pa hn hdb hs hpl, fun aS A0 H0 σ H s n xq Q S L hm => ?_⟩
  refine fa aS A0 H0 σ H s n xq _ S L (mna _ _ _ _ _ (fun ds n1 q vs H1 k1 st1 r1 => ?_) hm)
  obtain ⟨d, e, q⟩ := q
  refine hr aS H1 _ n1 ds d vs Q (S.step k1 st1).cn r1 e fun a H' ha k st o => q a H' ?_ (k1.trans k) st o
  cases z : H a with
  | none => rfl
  | some u =>
    by_cases hz : a = aS
    · obtain ⟨xs, y⟩ := st1.lst
      rw [hz, y] at ha; cases ha
    · exact (KpS.gone k1 ha z hz).elim
/-! displays, constants -/
theorem ve_tup {x1} (h : VA Rep X E O es ml) : VE X E O (.Tuple es x1 pos) (eTup ml) := by
  obtain ⟨mn, t, pa, f⟩ := h
  refine ⟨fun xq s n Q Q' hq h => mn _ _ _ _ _ (fun _ _ ⟨z, q⟩ => ⟨z, hq _ _ q⟩) h, _, pe_tup pa, fun aS A0 H0 σ H s n xq Q S L hm => ?_⟩
  refine f aS A0 H0 σ H s n xq _ S L (mn _ _ _ _ _ (fun ds n1 q vs H1 k1 st1 r1 => ?_) hm)
  have hl := (RL.repL r1).length
  refine ⟨by rw [hl, sizeLine_eq]; omega, fun p hp => q.2 _ _ (k1.trans (KpS.upd hp)) (st1.upd hp) ?_⟩
  rw [Rep]
  exact ⟨p, vs, rfl, .inl upd_same, (RL.repL r1).kp (KpS.upd hp) st1 AV.st⟩
theorem vf_lst (h : VA Rep X E O es ml) : VF X E O (.List es pos) (eLst ml) := by
  obtain ⟨mn, t, pa, f⟩ := h
  refine ⟨fun xq s n Q Q' hq h => mn _ _ _ _ _ (fun _ _ ⟨z, q⟩ => ⟨z, hq _ _ q⟩) h, _, pe_lst pa, fun aS A0 H0 σ H s n xq Q S L hm => ?_⟩
  refine f aS A0 H0 σ H s n xq _ S L (mn _ _ _ _ _ (fun ds n1 q vs H1 k1 st1 r1 => ?_) hm)
  have hl := (RL.repL r1).length
  refine ⟨by rw [hl, sizeLine_eq]; omega, fun p hp => q.2 _ _ ?_ (k1.trans (KpS.upd hp)) (st1.upd hp) (own_new hp (RL.repL r1))⟩
  cases z : H p with
  | none => rfl
  | some u =>
    by_cases hz : p = aS
    · obtain ⟨xs, y⟩ := st1.lst
      rw [hz, y] at hp; cases hp
    · exact (KpS.gone k1 hp z hz).elim
theorem mn_c {d : D} : Mn (eC d) := fun _ _ _ _ _ hq h => hq _ _ h
theorem ve_int {i j pos} : VE X E O (.Constant (.int i) j pos) (eC (.int i)) := ⟨mn_c, _, pe_int, fun aS A0 H0 σ H s n xq Q S L hm => hm _ H KpS.refl S.st (by rw [Rep])⟩
theorem ve_bl {b j pos} : VE X E O (.Constant (.bool b) j pos) (eC (.bl b)) := ⟨mn_c, _, pe_bl, fun aS A0 H0 σ H s n xq Q S L hm => hm _ H KpS.refl S.st (by rw [Rep])⟩
theorem ve_str {x j pos} : VE X E O (.Constant (.str x) j pos) (eC (.str x)) := ⟨mn_c, _, pe_str, fun aS A0 H0 σ H s n xq Q S L hm => hm _ H KpS.refl S.st (by rw [Rep])⟩
/-- a module's text or int -/
theorem ve_gstr {x z : Str} (hg : Gl X x) (hm : ∃ t, X.mg x = some (.str z t)) (hd : (x == ("__debug__" : Str)) = false := by decide) : VE X E O (.Name x pos) (eC (.str z)) := by
  obtain ⟨t, hm⟩ := hm
  exact ⟨mn_c, _, pe_glob (v := .str z) hg hm ⟨t, rfl⟩ hd, fun aS A0 H0 σ H s n xq Q S L hm => hm _ H KpS.refl S.st (by rw [Rep])⟩
theorem ve_gint {x : Str} {i : Int} (hg : Gl X x) (hm : ∃ t, X.mg x = some (.int i t)) (hd : (x == ("__debug__" : Str)) = false := by decide) : VE X E O (.Name x pos) (eC (.int i)) := by
  obtain ⟨t, hm⟩ := hm
  exact ⟨mn_c, _, pe_glob (v := .int i) hg hm ⟨t, rfl⟩ hd, fun aS A0 H0 σ H s n xq Q S L hm => hm _ H KpS.refl S.st (by rw [Rep])⟩
/-- a built-in class, a class of the program's as a value -/
theorem ve_bty {x : Str} {T : String} (hg : Gl X x) (hm : X.mg x = none) (hv : bootBuiltins x = some (.type T)) (hn : x ≠ "__name__" := by decide) (hd : (x == ("__debug__" : Str)) = false := by decide) : VE X E O (.Name x pos) (eC (.raw (.ty T))) :=
  ⟨mn_c, _, pe_bltn (v := .ty T) hg hm hv rfl hn hd, fun aS A0 H0 σ H s n xq Q S L hm => hm _ H KpS.refl S.st (by rw [Rep])⟩
/-! and, or, not, if -/
def eOr (a b : EM D) : EM D := fun xq s n Q => a xq s n fun x n1 => ∃ c, x = .bl c ∧ if c = true then Q (.bl true) n1 else b xq s n1 Q
def eIf (t : EM Bool) (a b : EM D) : EM D := fun xq s n Q => t xq s n fun c n1 => if c = true then a xq s n1 Q else b xq s n1 Q
def tVal (a : EM D) : EM Bool := fun xq s n Q => a xq s n fun x n1 => ∃ c, x = .bl c ∧ Q c n1
def tAndD (a b : EM Bool) : EM Bool := fun xq s n Q => a xq s n fun c n1 => if c = true then b xq s n1 Q else Q false n1
def tOrD (a b : EM Bool) : EM Bool := fun xq s n Q => a xq s n fun c n1 => if c = true then Q true n1 else b xq s n1 Q
def tNotD (a : EM Bool) : EM Bool := fun xq s n Q => a xq s n fun c n1 => Q (!c) n1
/-- a chain of tests (and, or) -/
def VW (X : Cx) (E : XK) (O : List Nat) (e : Expr) (m : EM Bool) : Prop := Mn m ∧ ∃ t, PW X e t ∧ ∀ (aS : Addr) (A0 : A0T) (H0 : Hp) (σ : L2.St) (H : Hp) (s : Ev) (n : Nat) (xq : XQ) (Q : Bool → Hp → Prop), SR X.K aS O A0 H0 σ H s n → LX X.K E aS A0 H0 xq →
  m xq s n (fun b n' => ∀ H', KpS aS H H' → StA X.K aS H' n' → Q b H') → t σ H Q
variable {tA tB : EM Bool} {rest : List Expr}
theorem VW.t (h : VW X E O e tA) : VT X E O e tA := by
  obtain ⟨mn, t, pw, f⟩ := h
  exact ⟨mn, t, pw.pt, f⟩
theorem vw_and1 (ha : VT X E O a tA) : VW X E O (.BoolOp .And [a] pos) tA := by
  obtain ⟨mn, t, p, f⟩ := ha
  exact ⟨mn, t, pw_and1 p, f⟩
theorem vw_or1 (ha : VT X E O a tA) : VW X E O (.BoolOp .Or [a] pos) tA := by
  obtain ⟨mn, t, p, f⟩ := ha
  exact ⟨mn, t, pw_or1 p, f⟩
theorem vw_and (ha : VT X E O a tA) (hb : VW X E O (.BoolOp .And (b :: rest) pos) tB) : VW X E O (.BoolOp .And (a :: b :: rest) pos) (tAndD tA tB) := by
  obtain ⟨mna, ta, pa, fa⟩ := ha
  obtain ⟨mnb, tb, pb, fb⟩ := hb
  refine ⟨fun xq s n Q Q' hq h => mna _ _ _ _ _ (fun c n1 h => ?_) h, _, pw_and pa pb, fun aS A0 H0 σ H s n xq Q S L hm => ?_⟩
  · cases c with
    | true => exact mnb _ _ _ _ _ hq h
    | false => exact hq _ _ h
  · refine fa aS A0 H0 σ H s n xq _ S L (mna _ _ _ _ _ (fun c n1 q H1 k1 st1 => ?_) hm)
    cases c with
    | true => exact fb aS A0 H0 σ H1 s n1 xq _ (S.step k1 st1) L (mnb _ _ _ _ _ (fun c2 n2 q2 H2 k2 st2 => q2 H2 (k1.trans k2) st2) q)
    | false => exact q H1 k1 st1
theorem vw_or (ha : VT X E O a tA) (hb : VW X E O (.BoolOp .Or (b :: rest) pos) tB) : VW X E O (.BoolOp .Or (a :: b :: rest) pos) (tOrD tA tB) := by
  obtain ⟨mna, ta, pa, fa⟩ := ha
  obtain ⟨mnb, tb, pb, fb⟩ := hb
  refine ⟨fun xq s n Q Q' hq h => mna _ _ _ _ _ (fun c n1 h => ?_) h, _, pw_or pa pb, fun aS A0 H0 σ H s n xq Q S L hm => ?_⟩
  · cases c with
    | false => exact mnb _ _ _ _ _ hq h
    | true => exact hq _ _ h
  · refine fa aS A0 H0 σ H s n xq _ S L (mna _ _ _ _ _ (fun c n1 q H1 k1 st1 => ?_) hm)
    cases c with
    | false => exact fb aS A0 H0 σ H1 s n1 xq _ (S.step k1 st1) L (mnb _ _ _ _ _ (fun c2 n2 q2 H2 k2 st2 => q2 H2 (k1.trans k2) st2) q)
    | true => exact q H1 k1 st1
theorem vt_not (ha : VT X E O a tA) : VT X E O (.UnaryOp .Not a pos) (tNotD tA) := by
  obtain ⟨mn, t, p, f⟩ := ha
  exact ⟨fun xq s n Q Q' hq h => mn _ _ _ _ _ (fun c n1 h => hq _ _ h) h, _, pt_not p, fun aS A0 H0 σ H s n xq Q S L hm => f aS A0 H0 σ H s n xq _ S L hm⟩
theorem vt_val (h : VE X E O e m) (he : ∀ whole, isTrue e X.env whole = (do let v ← whole; standAt e.pos; holding [v] (truthy v)) := by intro _; rfl) : VT X E O e (tVal m) := by
  obtain ⟨mn, t, p, f⟩ := h
  refine ⟨fun xq s n Q Q' hq h => mn _ _ _ _ _ (fun _ _ ⟨c, e, q⟩ => ⟨c, e, hq _ _ q⟩) h, _, pt_val p he, fun aS A0 H0 σ H s n xq Q S L hm => ?_⟩
  refine f aS A0 H0 σ H s n xq _ S L (mn _ _ _ _ _ (fun d n1 q v H1 k1 st1 r1 => ?_) hm)
  obtain ⟨c, e, q⟩ := q
  subst e
  rw [Rep] at r1
  exact ⟨c, r1, q H1 k1 st1⟩
theorem ve_one {op} (h : VE X E O a m) : VE X E O (.BoolOp op [a] pos) m := by
  obtain ⟨mn, t, p, f⟩ := h
  exact ⟨mn, t, pe_one p, f⟩
theorem ve_or (ha : VE X E O a ma) (hb : VE X E O (.BoolOp .Or (b :: rest) pos) mb) : VE X E O (.BoolOp .Or (a :: b :: rest) pos) (eOr ma mb) := by
  obtain ⟨mna, ta, pa, fa⟩ := ha
  obtain ⟨mnb, tb, pb, fb⟩ := hb
  refine ⟨fun xq s n Q Q' hq h => mna _ _ _ _ _ (fun d n1 h => by
    obtain ⟨c, e, h⟩ := h
    refine ⟨c, e, ?_⟩
    cases c with
    | false => exact mnb _ _ _ _ _ hq h
    | true => exact hq _ _ h) h, _, pe_or pa pb, fun aS A0 H0 σ H s n xq Q S L hm => ?_⟩
  refine fa aS A0 H0 σ H s n xq _ S L (mna _ _ _ _ _ (fun d n1 q v H1 k1 st1 r1 => ?_) hm)
  obtain ⟨c, e, q⟩ := q
  subst e
  rw [Rep] at r1
  refine ⟨c, r1, ?_⟩
  cases c with
  | false => exact fb aS A0 H0 σ H1 s n1 xq _ (S.step k1 st1) L (mnb _ _ _ _ _ (fun d2 n2 q2 v2 H2 k2 st2 r2 => q2 v2 H2 (k1.trans k2) st2 r2) q)
  | true => exact q _ H1 k1 st1 (by rw [Rep])
theorem ve_ifExp {c : Expr} (hc : VT X E O c tA) (ha : VE X E O a ma) (hb : VE X E O b mb) : VE X E O (.IfExp c a b pos) (eIf tA ma mb) := by
  obtain ⟨mnc, tc, pc, fc⟩ := hc
  obtain ⟨mna, ta, pa, fa⟩ := ha
  obtain ⟨mnb, tb, pb, fb⟩ := hb
  refine ⟨fun xq s n Q Q' hq h => mnc _ _ _ _ _ (fun c n1 h => ?_) h, _, pe_ifExp pc pa pb, fun aS A0 H0 σ H s n xq Q S L hm => ?_⟩
  · cases c with
    | true => exact mna _ _ _ _ _ hq h
    | false => exact mnb _ _ _ _ _ hq h
  · refine fc aS A0 H0 σ H s n xq _ S L (mnc _ _ _ _ _ (fun c n1 q H1 k1 st1 => ?_) hm)
    cases c with
    | true => exact fa aS A0 H0 σ H1 s n1 xq _ (S.step k1 st1) L (mna _ _ _ _ _ (fun c2 n2 q2 v2 H2 k2 st2 r2 => q2 v2 H2 (k1.trans k2) st2 r2) q)
    | false => exact fb aS A0 H0 σ H1 s n1 xq _ (S.step k1 st1) L (mnb _ _ _ _ _ (fun c2 n2 q2 v2 H2 k2 st2 r2 => q2 v2 H2 (k1.trans k2) st2 r2) q)
end
end DL
namespace DL
open PySem PySem.Spec PyProof.Rows L2
variable [TabC]
/-! ### sums -/
def LIM : Nat := 100000
def dAdd : D → D → Option D
  | .int i, .int j => some (.int (i + j))
  | .lst xs, .lst ys => if xs.length + ys.length ≤ LIM then some (.lst (xs ++ ys)) else none
  | .tup xs, .tup ys => if xs.length + ys.length ≤ LIM then some (.tup (xs ++ ys)) else none
  | .str x, .str y => if x.length + y.length ≤ LIM then some (.str (x ++ y)) else none
  | _, _ => none
section
variable {K : PySem.W.Frag} {aS : Addr} {H : Hp} {A : AS} {n : Nat} {d : D} {v : V}
theorem repB_int {i : Int} (h : RepB K aS H A (.int i) v) : v = .int i := by
  unfold RepB at h
  simp only [Rep] at h
  exact h
theorem repB_str {i : Str} (h : RepB K aS H A (.str i) v) : v = .str i := by
  unfold RepB at h
  simp only [Rep] at h
  exact h
theorem repB_bl {i : Bool} (h : RepB K aS H A (.bl i) v) : v = .bl i := by
  unfold RepB at h
  simp only [Rep] at h
  exact h
theorem repB_non (h : RepB K aS H A .non v) : v = .non := by
  unfold RepB at h
  simp only [Rep] at h
  exact h
theorem repB_raw {u : V} (h : RepB K aS H A (.raw u) v) : v = u := by
  unfold RepB at h
  simp only [Rep] at h
  exact h
theorem repB_tup {ds : List D} (h : RepB K aS H A (.tup ds) v) : ∃ a xs, v = .ref a ∧ TpA K H a xs ∧ RepL K aS H A ds xs := by
  unfold RepB at h
  simp only [Rep] at h
  exact h
theorem repB_lst {ds : List D} (h : RepB K aS H A (.lst ds) v) : ∃ a xs, v = .ref a ∧ a ≠ aS ∧ H a = some (.lst xs) ∧ RepL K aS H A ds xs := h
theorem repB_dic {ds : List (Key × D)} (h : RepB K aS H A (.dic ds) v) : ∃ a ys, v = .ref a ∧ a ≠ aS ∧ Rd H a (.dK ys) ∧ RepK K aS H A ds ys := h
theorem rep_int {i : Int} : Rep K aS H A (.int i) (.int i) := by rw [Rep]
theorem rep_str {i : Str} : Rep K aS H A (.str i) (.str i) := by rw [Rep]
theorem rep_bl {i : Bool} : Rep K aS H A (.bl i) (.bl i) := by rw [Rep]
theorem rep_non : Rep K aS H A .non .non := by rw [Rep]
theorem rep_tup {ds : List D} {a : Addr} {xs : List V} (h : TpA K H a xs) (r : RepL K aS H A ds xs) : Rep K aS H A (.tup ds) (.ref a) := by rw [Rep]; exact ⟨a, xs, rfl, h, r⟩
theorem lim_line {k : Nat} (h : k ≤ LIM) : k ≤ sizeLine := by unfold LIM at h; rw [sizeLine_eq]; omega
theorem RepL.kpu {ds : List D} {xs : List V} {p : Addr} {o : HO} (c : Cn K aS H A n) (hp : H p = none) (r : RepL K aS H A ds xs) : RepL K aS (upd H p o) A ds xs := r.kp (KpS.upd hp) c.st c.a
end
section
variable {X : Cx}
theorem od_add : OpD X (binaryOp .Add) dAdd := by
  refine ⟨_, OpR.or op_add (OpR.or op_cat (OpR.or op_catA op_add_str)), fun aS H A n d1 d2 d v1 v2 Q c r1 r2 e w => ?_⟩
  unfold dAdd at e
  split at e
  · cases e
    exact .inl ⟨_, _, repB_int r1, repB_int r2, w _ _ KpS.refl c.st rep_int⟩
  · split at e
    · rename_i xs ys hl
      cases e
      obtain ⟨a, us, e1, n1, h1, q1⟩ := repB_lst r1
      obtain ⟨b, ws, e2, n2, h2, q2⟩ := repB_lst r2
      refine .inr (.inl ⟨a, b, us, ws, e1, e2, h1, h2, by rw [q1.length, q2.length]; exact lim_line hl, fun p hp => w _ _ (KpS.upd hp) (c.st.upd hp) ((own_new hp (q1.app q2)).rep (c.new hp))⟩)
    · cases e
  · split at e
    · rename_i xs ys hl
      cases e
      obtain ⟨a, us, e1, h1, q1⟩ := repB_tup r1
      obtain ⟨b, ws, e2, h2, q2⟩ := repB_tup r2
      refine .inr (.inr (.inl ⟨a, b, us, ws, e1, e2, h1.sq, h2.sq, by rw [q1.length, q2.length]; exact lim_line hl, fun z => ?_, fun _ z => ?_, fun _ _ p hp => w _ _ (KpS.upd hp) (c.st.upd hp) (rep_tup (.inl upd_same) ((q1.app q2).kpu c hp))⟩))
      · have ez : xs = [] := List.length_eq_zero_iff.mp (by rw [← q1.length, z]; rfl)
        subst ez
        exact w _ _ KpS.refl c.st (rep_tup h2 q2)
      · have ez : ys = [] := List.length_eq_zero_iff.mp (by rw [← q2.length, z]; rfl)
        subst ez
        rw [List.append_nil] at w
        exact w _ _ KpS.refl c.st (rep_tup h1 q1)
    · cases e
  · split at e
    · rename_i xs ys hl
      cases e
      exact .inr (.inr (.inr ⟨_, _, repB_str r1, repB_str r2, lim_line hl, w _ _ KpS.refl c.st rep_str⟩))
    · cases e
  · cases e
/-! ### comparisons -/
def dCmp (f : Int → Int → Bool) (g : List Nat → List Nat → Bool) : D → D → Option D
  | .int i, .int j => some (.bl (f i j))
  | .str i, .str j => some (.bl (g i.cps.toList j.cps.toList))
  | _, _ => none
theorem od_cmp {op : CmpOp} {f : Int → Int → Bool} {g : List Nat → List Nat → Bool} (h1 : OpR X (compareOp op) (rI0 fun i j => .bl (f i j))) (h2 : OpR X (compareOp op) (fun x y H Q => ∃ i j, x = .str i ∧ y = .str j ∧ Q (.bl (g i.cps.toList j.cps.toList)) H)) : OpD X (compareOp op) (dCmp f g) := by
  refine ⟨_, OpR.or h1 h2, fun aS H A n d1 d2 d v1 v2 Q c r1 r2 e w => ?_⟩
  unfold dCmp at e
  split at e
  · cases e
    exact .inl ⟨_, _, repB_int r1, repB_int r2, w _ _ KpS.refl c.st rep_bl⟩
  · cases e
    exact .inr ⟨_, _, repB_str r1, repB_str r2, w _ _ KpS.refl c.st rep_bl⟩
  · cases e
def dLt : D → D → Option D := dCmp (fun i j => decide (i < j)) (fun x y => decide (x < y))
def dLe0 : D → D → Option D := dCmp (fun i j => decide (i ≤ j)) (fun x y => !decide (y < x))
def dGt : D → D → Option D := dCmp (fun i j => decide (j < i)) (fun x y => decide (y < x))
theorem od_le0 : OpD X (compareOp .LtE) dLe0 := od_cmp op_le op_le_str
theorem od_gt : OpD X (compareOp .Gt) dGt := od_cmp op_gt op_gt_str
end
/-! ### == by data -/
mutual
def toPD : D → PyData
  | .non => .none
  | .bl b => .bool b
  | .int i => .int i
  | .str x => .str x
  | .lst xs => .list (toPDs xs)
  | .tup xs => .tuple (toPDs xs)
  | _ => .dict []
def toPDs : List D → List PyData
  | [] => []
  | d :: ds => toPD d :: toPDs ds
end
section
variable {K : PySem.W.Frag} {aS : Addr} {H : Hp} {A : AS}
mutual
theorem Rep.dp : ∀ (d : D) (v : V), (toPD d).canLay0 = true → Rep K aS H A d v → Dp K H v (toPD d)
  | .non, v, _, h => by
    simp only [Rep] at h
    subst h
    exact Dp.non
  | .bl b, v, _, h => by
    simp only [Rep] at h
    subst h
    exact Dp.bl b
  | .int i, v, _, h => by
    simp only [Rep] at h
    subst h
    exact Dp.int i
  | .str i, v, _, h => by
    simp only [Rep] at h
    subst h
    exact Dp.str i
  | .lst ds, v, c, h => by
    rw [Rep] at h
    obtain ⟨a, xs, e, n, q, r⟩ := h
    subst e
    rw [toPD] at c ⊢
    exact Dp.lst (SqL.of q) (RepL.dp ds xs (by simpa [PyData.canLay0] using c) r)
  | .tup ds, v, c, h => by
    rw [Rep] at h
    obtain ⟨a, xs, e, q, r⟩ := h
    subst e
    rw [toPD] at c ⊢
    exact Dp.tup q.sq (RepL.dp ds xs (by simpa [PyData.canLay0] using c) r)
  | .raw u, v, c, h => by simp [toPD, PyData.canLay0] at c
  | .st, v, c, h => by simp [toPD, PyData.canLay0] at c
  | .dic u, v, c, h => by simp [toPD, PyData.canLay0] at c
  | .dmx u, v, c, h => by simp [toPD, PyData.canLay0] at c
  | .obj C u, v, c, h => by simp [toPD, PyData.canLay0] at c
  | .exc C u, v, c, h => by simp [toPD, PyData.canLay0] at c
theorem RepL.dp : ∀ (ds : List D) (vs : List V), PyData.canLayAll0 (toPDs ds) = true → RepL K aS H A ds vs → DpAll K H vs (toPDs ds)
  | [], vs, _, h => by
    rw [RepL] at h
    subst h
    exact DpAll.nil
  | d :: ds, vs, c, h => by
    rw [RepL] at h
    obtain ⟨v, vr, e, r, q⟩ := h
    subst e
    have c' : (toPD d).canLay0 = true ∧ PyData.canLayAll0 (toPDs ds) = true := by simpa [toPDs, PyData.canLayAll0] using c
    rw [toPDs]
    exact DpAll.cons (Rep.dp d v c'.1 r) (RepL.dp ds vr c'.2 q)
end
theorem RepB.dp {d : D} {v : V} (c : (toPD d).canLay0 = true) (h : RepB K aS H A d v) : Dp K H v (toPD d) := by
  cases d with
  | lst ds =>
    obtain ⟨a, xs, e, n, q, r⟩ := h
    subst e
    rw [toPD] at c ⊢
    exact Dp.lst (SqL.of q) (RepL.dp ds xs (by simpa [PyData.canLay0] using c) r)
  | dic ds => simp [toPD, PyData.canLay0] at c
  | dmx ds => simp [toPD, PyData.canLay0] at c
  | obj C ds => simp [toPD, PyData.canLay0] at c
  | exc C ds => simp [toPD, PyData.canLay0] at c
  | non => exact Rep.dp (aS := aS) (A := A) .non _ c h
  | bl b => exact Rep.dp (aS := aS) (A := A) (.bl b) _ c h
  | int b => exact Rep.dp (aS := aS) (A := A) (.int b) _ c h
  | str b => exact Rep.dp (aS := aS) (A := A) (.str b) _ c h
  | raw b => exact Rep.dp (aS := aS) (A := A) (.raw b) _ c h
  | st => exact Rep.dp (aS := aS) (A := A) .st _ c h
  | tup b => exact Rep.dp (aS := aS) (A := A) (.tup b) _ c h
end
def okD (d : D) : Bool := SeqAt.shaped (toPD d)
theorem okD_lay {d : D} (h : okD d = true) : (toPD d).canLay0 = true := by
  unfold okD SeqAt.shaped at h
  exact (Bool.and_eq_true_iff.mp h).1
def pyEq (a b : D) : Bool := (toPD a).eqv (toPD b)
def dEq (a b : D) : Option D := if (okD a && okD b) = true then some (.bl (pyEq a b)) else none
def dNe (a b : D) : Option D := if (okD a && okD b) = true then some (.bl (!pyEq a b)) else none
section
variable {X : Cx}
/-! x <= y of alike data: lists and tuples place by place -/
def ordOk (a b : D) : Bool := okD a && okD b && PySem.W.alike (toPD a) (toPD b) && (match a with | .lst _ => true | .tup _ => true | _ => false)
def dLeD (a b : D) : Option D := if ordOk a b = true then some (.bl (!PySem.W.dataLt (toPD b) (toPD a))) else none
def rLeD (K : PySem.W.Frag) : R2 := fun x y H Q => ∃ d e, Dp K H x d ∧ Dp K H y e ∧ SeqAt.shaped d = true ∧ SeqAt.shaped e = true ∧ PySem.W.alike d e = true ∧ d ≠ .none ∧ Q (.bl (!PySem.W.dataLt e d)) H
theorem op_leD (hu : X.A.units + 64 < cLine) : OpR X (compareOp .LtE) (rLeD X.K) := fun pins s σ H x y v u Q I rx ry ⟨d, e, hd, he, sd, se, ha, hn, q⟩ => by
  obtain ⟨as, r1⟩ := Dp.reads I d x v hd rx
  obtain ⟨bs, r2⟩ := Dp.reads I e y u he ry
  have h1 : d.depth ≤ 64 := of_decide_eq_true (Bool.and_eq_true_iff.mp sd).2
  exact PySem.W.le_data r1 r2 ha hn (by have := Nat.min_le_left d.depth e.depth; omega) ⟨.bl _, H, I, rfl, q⟩
theorem od_leD (hu : X.A.units + 64 < cLine) : OpD X (compareOp .LtE) dLeD := by
  refine ⟨_, op_leD hu, fun aS H A n d1 d2 d v1 v2 Q c r1 r2 e w => ?_⟩
  unfold dLeD at e
  split at e
  · rename_i h
    cases e
    obtain ⟨h, h4⟩ := Bool.and_eq_true_iff.mp h
    obtain ⟨h, h3⟩ := Bool.and_eq_true_iff.mp h
    obtain ⟨h1, h2⟩ := Bool.and_eq_true_iff.mp h
    refine ⟨_, _, r1.dp (okD_lay h1), r2.dp (okD_lay h2), h1, h2, h3, ?_, w _ _ KpS.refl c.st rep_bl⟩
    cases d1 with
    | lst _ => exact fun z => nomatch z
    | tup _ => exact fun z => nomatch z
    | _ => cases h4
  · cases e
def dLe (a b : D) : Option D := (dLe0 a b).or (dLeD a b)
theorem od_le (hu : X.A.units + 64 < cLine) : OpD X (compareOp .LtE) dLe := by
  obtain ⟨R1, h1, k1⟩ := od_le0 (X := X)
  obtain ⟨R2, h2, k2⟩ := od_leD (X := X) hu
  refine ⟨_, OpR.or h1 h2, fun aS H A n d1 d2 d v1 v2 Q c r1 r2 e w => ?_⟩
  unfold dLe at e
  cases e0 : dLe0 d1 d2 with
  | some z =>
    rw [e0] at e
    cases e
    exact .inl (k1 aS H A n d1 d2 _ v1 v2 Q c r1 r2 e0 w)
  | none =>
    rw [e0] at e
    exact .inr (k2 aS H A n d1 d2 d v1 v2 Q c r1 r2 e w)
theorem od_eq (hu : X.A.units + 64 < cLine) : OpD X (compareOp .Eq) dEq := by
  refine ⟨_, op_eqD hu, fun aS H A n d1 d2 d v1 v2 Q c r1 r2 e w => ?_⟩
  unfold dEq at e
  split at e
  · rename_i h
    cases e
    obtain ⟨h1, h2⟩ := Bool.and_eq_true_iff.mp h
    exact ⟨_, _, r1.dp (okD_lay h1), r2.dp (okD_lay h2), h1, h2, w _ _ KpS.refl c.st rep_bl⟩
  · cases e
theorem od_ne (hu : X.A.units + 64 < cLine) : OpD X (compareOp .NotEq) dNe := by
  refine ⟨_, op_neD hu, fun aS H A n d1 d2 d v1 v2 Q c r1 r2 e w => ?_⟩
  unfold dNe at e
  split at e
  · rename_i h
    cases e
    obtain ⟨h1, h2⟩ := Bool.and_eq_true_iff.mp h
    exact ⟨_, _, r1.dp (okD_lay h1), r2.dp (okD_lay h2), h1, h2, w _ _ KpS.refl c.st rep_bl⟩
  · cases e
end
/-! ### in -/
def flatD : D → Bool
  | .non => true
  | .bl _ => true
  | .int _ => true
  | .str _ => true
  | _ => false
def keyD : D → Option Key
  | .int i => some (.inl i)
  | .str x => some (.inr x)
  | _ => none
def lookK (kvs : List (Key × D)) (k : Key) : Option D := (kvs.find? fun kv => decide (kv.1 = k)).map (·.2)
def dInB : D → D → Option Bool
  | x, .lst ys => if (okD x && okD (.lst ys)) = true then some (ys.any fun y => pyEq y x) else none
  | x, .tup ys => if (flatD x && ys.all flatD) = true then some (ys.any fun y => pyEq y x) else none
  | x, .dic kvs => (keyD x).map fun k => (lookK kvs k).isSome
  | .str c, .str z => match c.cps.toList with
    | [k] => some (decide (k ∈ z.cps.toList))
    | _ => none
  | _, _ => none
def dIn (x y : D) : Option D := (dInB x y).map .bl
def dNotIn (x y : D) : Option D := (dInB x y).map fun b => .bl (!b)
section
variable {K : PySem.W.Frag} {aS : Addr} {H : Hp} {A : AS}
theorem flat_rep : ∀ {d : D} {v : V}, flatD d = true → Rep K aS H A d v → flatV v = true ∧ ∀ (e : D) (u : V), flatD e = true → Rep K aS H A e u → eqV v u = pyEq d e := by
  intro d v h r
  cases d <;> simp only [flatD, Bool.false_eq_true] at h <;> simp only [Rep] at r <;> subst r <;> refine ⟨rfl, fun e u h2 r2 => ?_⟩ <;> cases e <;> simp only [flatD, Bool.false_eq_true] at h2 <;> simp only [Rep] at r2 <;> subst r2 <;> simp [eqV, pyEq, toPD, PyData.eqv]
theorem flat_all : ∀ {ds : List D} {vs : List V} {x : D} {v : V}, ds.all flatD = true → RepL K aS H A ds vs → flatD x = true → Rep K aS H A x v → vs.all flatV = true ∧ inV v vs = ds.any (fun y => pyEq y x)
  | [], vs, x, v, _, h, _, _ => by
    rw [RepL] at h
    subst h
    exact ⟨rfl, rfl⟩
  | d :: ds, vs, x, v, h, r, hx, rx => by
    rw [RepL] at r
    obtain ⟨w, vr, e, r, q⟩ := r
    subst e
    rw [List.all_cons] at h
    obtain ⟨h1, h2⟩ := Bool.and_eq_true_iff.mp h
    obtain ⟨f1, f2⟩ := flat_rep h1 r
    obtain ⟨i1, i2⟩ := flat_all h2 q hx rx
    refine ⟨by rw [List.all_cons, f1, i1]; rfl, ?_⟩
    unfold inV at i2 ⊢
    rw [List.any_cons, List.any_cons, i2, f2 x v hx rx]
theorem any_pds (x : D) : ∀ ys : List D, (toPDs ys).any (fun z => PyData.eqv z (toPD x)) = ys.any fun y => pyEq y x
  | [] => rfl
  | y :: ys => by rw [toPDs, List.any_cons, List.any_cons, any_pds x ys]; rfl
theorem RepK.val : ∀ {ds : List (Key × D)} {vs : List (Key × V)} (k : Key), RepK K aS H A ds vs → (lookK ds k = none ∧ valV vs k = none) ∨ ∃ d v, lookK ds k = some d ∧ valV vs k = some v ∧ Rep K aS H A d v
  | [], vs, k, h => by
    rw [RepK] at h
    subst h
    exact .inl ⟨rfl, rfl⟩
  | (k', d) :: ds, vs, k, h => by
    rw [RepK] at h
    obtain ⟨v, vr, e, r, q⟩ := h
    subst e
    unfold lookK valV
    rw [List.find?_cons, List.find?_cons]
    by_cases hk : k' = k
    · simp only [hk, decide_true]
      exact .inr ⟨d, v, rfl, rfl, r⟩
    · simp only [hk, decide_false]
      exact RepK.val k q
theorem key_rep {d : D} {v : V} {k : Key} (h : keyD d = some k) (r : RepB K aS H A d v) : v = kV k := by
  cases d <;> simp only [keyD] at h <;> cases h
  · exact repB_int r
  · exact repB_str r
end
section
variable {X : Cx}
theorem op_dIn (hu : X.A.units + 1 < cLine) : OpR X (compareOp .In) (fun x y H Q => ∃ a o, y = .ref a ∧ DGet H a x o ∧ Q (.bl o.isSome) H) :=
  fun _ _ _ H _ _ _ _ _ inv rx ry ⟨_, o, ey, g, q⟩ => by
    subst ey
    cases ry
    exact d_in hu inv g rx fun _ inv' => ⟨.bl o.isSome, H, inv', rfl, q⟩
theorem op_dNotIn (hu : X.A.units + 1 < cLine) : OpR X (compareOp .NotIn) (fun x y H Q => ∃ a o, y = .ref a ∧ DGet H a x o ∧ Q (.bl (!o.isSome)) H) :=
  fun _ _ _ H _ _ _ _ _ inv rx ry ⟨_, o, ey, g, q⟩ => by
    subst ey
    cases ry
    exact d_notIn hu inv g rx fun _ inv' => ⟨.bl (!o.isSome), H, inv', rfl, q⟩
theorem od_in (hu : X.A.units + 65 < cLine) : OpD X (compareOp .In) dIn := by
  refine ⟨_, OpR.or (op_inD hu) (OpR.or op_in_seq (OpR.or (op_dIn (by omega)) op_in_sign)), fun aS H A n d1 d2 d v1 v2 Q c r1 r2 e w => ?_⟩
  unfold dIn at e
  cases hb : dInB d1 d2 with
  | none => rw [hb] at e; cases e
  | some b =>
    rw [hb] at e
    cases e
    unfold dInB at hb
    split at hb
    · split at hb
      · rename_i x ys h
        cases hb
        obtain ⟨h1, h2⟩ := Bool.and_eq_true_iff.mp h
        have q2 := r2.dp (okD_lay h2)
        rw [toPD] at q2
        refine .inl ⟨_, _, r1.dp (okD_lay h1), q2, h1, h2, ?_⟩
        rw [any_pds]
        exact w _ _ KpS.refl c.st rep_bl
      · cases hb
    · split at hb
      · rename_i x ys h
        cases hb
        obtain ⟨h1, h2⟩ := Bool.and_eq_true_iff.mp h
        obtain ⟨a, xs, e2, h3, q2⟩ := repB_tup r2
        have r1' : Rep X.K aS H A d1 v1 := by cases d1 <;> first | exact r1 | (simp only [flatD, Bool.false_eq_true] at h1)
        obtain ⟨i1, i2⟩ := flat_all h2 q2 h1 r1'
        refine .inr (.inl ⟨a, xs, e2, .inr h3.sq, (flat_rep h1 r1').1, i1, ?_⟩)
        rw [if_neg (by decide), i2]
        exact w _ _ KpS.refl c.st rep_bl
      · cases hb
    · rename_i x kvs
      cases hk : keyD d1 with
      | none => rw [hk] at hb; cases hb
      | some k =>
        rw [hk] at hb
        cases hb
        obtain ⟨a, ys, e2, n2, h3, q2⟩ := repB_dic r2
        have e1 := key_rep hk r1
        refine .inr (.inr (.inl ⟨a, valV ys k, e2, .inl ⟨ys, k, h3, e1, rfl⟩, ?_⟩))
        rcases q2.val k with ⟨z1, z2⟩ | ⟨d, v, z1, z2, z3⟩
        · simp only [z1] at w
          rw [z2]
          exact w _ _ KpS.refl c.st rep_bl
        · simp only [z1] at w
          rw [z2]
          exact w _ _ KpS.refl c.st rep_bl
    · rename_i x z
      split at hb
      · rename_i k hk
        cases hb
        have ex : x = ⟨#[k]⟩ := by
          obtain ⟨cp⟩ := x
          have : cp.toList = [k] := hk
          rw [← Array.toArray_toList (xs := cp), this]
        rw [ex] at r1
        exact .inr (.inr (.inr ⟨k, z, repB_str r1, repB_str r2, w _ _ KpS.refl c.st rep_bl⟩))
      · cases hb
    · cases hb
theorem od_notIn (hu : X.A.units + 65 < cLine) : OpD X (compareOp .NotIn) dNotIn := by
  refine ⟨_, OpR.or (op_notInD hu) (OpR.or op_notIn_seq (OpR.or (op_dNotIn (by omega)) op_notIn_sign)), fun aS H A n d1 d2 d v1 v2 Q c r1 r2 e w => ?_⟩
  unfold dNotIn at e
  cases hb : dInB d1 d2 with
  | none => rw [hb] at e; cases e
  | some b =>
    rw [hb] at e
    cases e
    unfold dInB at hb
    split at hb
    · split at hb
      · rename_i x ys h
        cases hb
        obtain ⟨h1, h2⟩ := Bool.and_eq_true_iff.mp h
        have q2 := r2.dp (okD_lay h2)
        rw [toPD] at q2
        refine .inl ⟨_, _, r1.dp (okD_lay h1), q2, h1, h2, ?_⟩
        rw [any_pds]
        exact w _ _ KpS.refl c.st rep_bl
      · cases hb
    · split at hb
      · rename_i x ys h
        cases hb
        obtain ⟨h1, h2⟩ := Bool.and_eq_true_iff.mp h
        obtain ⟨a, xs, e2, h3, q2⟩ := repB_tup r2
        have r1' : Rep X.K aS H A d1 v1 := by cases d1 <;> first | exact r1 | (simp only [flatD, Bool.false_eq_true] at h1)
        obtain ⟨i1, i2⟩ := flat_all h2 q2 h1 r1'
        refine .inr (.inl ⟨a, xs, e2, .inr h3.sq, (flat_rep h1 r1').1, i1, ?_⟩)
        rw [if_pos rfl, i2]
        exact w _ _ KpS.refl c.st rep_bl
      · cases hb
    · rename_i x kvs
      cases hk : keyD d1 with
      | none => rw [hk] at hb; cases hb
      | some k =>
        rw [hk] at hb
        cases hb
        obtain ⟨a, ys, e2, n2, h3, q2⟩ := repB_dic r2
        have e1 := key_rep hk r1
        refine .inr (.inr (.inl ⟨a, valV ys k, e2, .inl ⟨ys, k, h3, e1, rfl⟩, ?_⟩))
        rcases q2.val k with ⟨z1, z2⟩ | ⟨d, v, z1, z2, z3⟩
        · simp only [z1] at w
          rw [z2]
          exact w _ _ KpS.refl c.st rep_bl
        · simp only [z1] at w
          rw [z2]
          exact w _ _ KpS.refl c.st rep_bl
    · rename_i x z
      split at hb
      · rename_i k hk
        cases hb
        have ex : x = ⟨#[k]⟩ := by
          obtain ⟨cp⟩ := x
          have : cp.toList = [k] := hk
          rw [← Array.toArray_toList (xs := cp), this]
        rw [ex] at r1
        exact .inr (.inr (.inr ⟨k, z, repB_str r1, repB_str r2, w _ _ KpS.refl c.st rep_bl⟩))
      · cases hb
    · cases hb
end
end DL
namespace DL
open PySem PySem.Spec PyProof.Rows L2
variable [TabC]
/-! ### subscripts -/
def dIdx : D → D → Option D
  | .lst xs, .int i => atI xs i
  | .tup xs, .int i => atI xs i
  | .str x, .int i => if x.length ≤ LIM then (atI x.cps.toList i).map fun c => .str ⟨#[c]⟩ else none
  | .dic kvs, k => (keyD k).bind (lookK kvs)
  | _, _ => none
theorem RepL.atI {K : PySem.W.Frag} {aS : Addr} {H : Hp} {A : AS} {ds : List D} {vs : List V} {i : Int} {d : D} (r : RepL K aS H A ds vs) (h : L2.atI ds i = some d) : ∃ v, L2.atI vs i = some v ∧ Rep K aS H A d v := by
  unfold L2.atI at h ⊢
  rw [r.length]
  cases e : ixN ds.length i with
  | none => rw [e] at h; cases h
  | some j =>
    rw [e] at h
    exact r.get h
section
variable {X : Cx} {E : XK} {O : List Nat} {a b e : Expr} {ma mb m : EM D} {pos : Pos}
/-- a dict by a key, read whatever its lock -/
theorem ix_dict (hu : X.A.units + 1 < cLine) : IxR X (fun x y H Q => ∃ a v, x = .ref a ∧ DGet H a y (some v) ∧ Q v H) :=
  fun _ _ _ _ _ H _ _ _ _ _ I rx ry ⟨_, v, ex, g, q⟩ hs => by
    subst ex
    cases rx
    exact tail_any (dict_typeIs I g) PySem.F.slot_dict_getitem.lookup (d_getItem hu I g ry fun _ _ I' r' => ⟨v, H, I', r', q⟩) hs
theorem ve_sub (hu : X.A.units + 1 < cLine) (ha : VB X E O a ma) (hb : VB X E O b mb) (hp : PlainIx b) : VE X E O (.Subscript a b pos) (eBin dIdx ma mb) := by
  obtain ⟨mna, ta, pa, fa⟩ := ha
  obtain ⟨mnb, tb, pb, fb⟩ := hb
  refine ⟨mn_bin mna mnb, _, pe_ix (IxR.or ix_list (IxR.or ix_tup (IxR.or ix_str (ix_dict hu)))) pa pb hp, fun aS A0 H0 σ H s n xq Q S L hm => ?_⟩
  refine fa aS A0 H0 σ H s n xq _ S L (mna _ _ _ _ _ (fun d1 n1 q v1 H1 k1 st1 r0 => ?_) hm)
  refine fb aS A0 H0 σ H1 s n1 xq _ (S.step k1 st1) L (mnb _ _ _ _ _ (fun d2 n2 q2 v2 H2 k2 st2 r2 => ?_) q)
  obtain ⟨d, e, q3⟩ := q2
  have r1 := r0.kp k2 st1 AV.st
  clear r0
  have w := fun v r => q3 v H2 (k1.trans k2) st2 r
  unfold dIdx at e
  split at e
  · obtain ⟨p, xs, e1, _, h1, rl⟩ := repB_lst r1
    obtain ⟨v, e2, r⟩ := rl.atI e
    exact .inl ⟨p, xs, _, v, e1, repB_int r2, SqL.of h1, e2, w v r⟩
  · obtain ⟨p, xs, e1, h1, rl⟩ := repB_tup r1
    obtain ⟨v, e2, r⟩ := rl.atI e
    exact .inr (.inl ⟨p, xs, _, v, e1, repB_int r2, h1.sq, e2, w v r⟩)
  · split at e
    · rename_i x i hl
      cases ec : L2.atI x.cps.toList i with
      | none => rw [ec] at e; cases e
      | some c =>
        rw [ec] at e
        cases e
        exact .inr (.inr (.inl ⟨x, i, c, repB_str r1, repB_int r2, lim_line hl, ec, w _ rep_str⟩))
    · cases e
  · cases ek : keyD d2 with
    | none => rw [ek] at e; cases e
    | some k =>
      rw [ek] at e
      obtain ⟨p, ys, e1, _, h1, rk⟩ := repB_dic r1
      rcases rk.val k with ⟨z1, z2⟩ | ⟨d', v, z1, z2, z3⟩
      · have e : lookK _ k = some d := e
        rw [z1] at e; cases e
      · have e : lookK _ k = some d := e
        rw [z1] at e
        cases e
        exact .inr (.inr (.inr ⟨p, v, e1, .inl ⟨ys, k, h1, key_rep ek r2, z2.symm⟩, w v z3⟩))
  · cases e
/-! ### slices -/
def cutL {α : Type} (xs : List α) (lo hi : Option Int) : List α := (xs.drop (HT.sIx xs.length 0 lo)).take (HT.sIx xs.length xs.length hi - HT.sIx xs.length 0 lo)
def dSl : D → Option Int → Option Int → Option D
  | .lst xs, lo, hi => some (.lst (cutL xs lo hi))
  | .tup xs, lo, hi => some (.tup (cutL xs lo hi))
  | .str x, lo, hi => if x.length ≤ LIM then some (.str (cutS x lo hi)) else none
  | _, _, _ => none
theorem RepL.cut {K : PySem.W.Frag} {aS : Addr} {H : Hp} {A : AS} {ds : List D} {vs : List V} {lo hi : Option Int} (r : RepL K aS H A ds vs) : RepL K aS H A (cutL ds lo hi) (cutV vs lo hi) := by
  unfold cutL cutV
  rw [r.length]
  exact (r.drop _).take _
def VO (X : Cx) (E : XK) (O : List Nat) (e : Option Expr) (m : EM (Option Int)) : Prop := Mn m ∧ ∃ t, PO X e t ∧ ∀ (aS : Addr) (A0 : A0T) (H0 : Hp) (σ : L2.St) (H : Hp) (s : Ev) (n : Nat) (xq : XQ) (Q : Option Int → Hp → Prop), SR X.K aS O A0 H0 σ H s n → LX X.K E aS A0 H0 xq →
  m xq s n (fun b n' => ∀ H', KpS aS H H' → StA X.K aS H' n' → Q b H') → t σ H Q
def oNone : EM (Option Int) := fun _ _ n Q => Q none n
def oSome (m : EM D) : EM (Option Int) := fun xq s n Q => m xq s n fun d n1 => ∃ i, d = .int i ∧ Q (some i) n1
theorem vo_none : VO X E O none oNone := ⟨fun _ _ _ _ _ hq h => hq _ _ h, _, po_none, fun aS A0 H0 σ H s n xq Q S L hm => hm H KpS.refl S.st⟩
theorem vo_some (h : VB X E O e m) : VO X E O (some e) (oSome m) := by
  obtain ⟨mn, t, p, f⟩ := h
  refine ⟨fun xq s n Q Q' hq h => mn _ _ _ _ _ (fun _ _ ⟨i, e, q⟩ => ⟨i, e, hq _ _ q⟩) h, _, po_some p, fun aS A0 H0 σ H s n xq Q S L hm => ?_⟩
  refine f aS A0 H0 σ H s n xq _ S L (mn _ _ _ _ _ (fun d n1 q v H1 k1 st1 r1 => ?_) hm)
  obtain ⟨i, e, q⟩ := q
  subst e
  exact ⟨i, repB_int r1, q H1 k1 st1⟩
def eSl (m : EM D) (lo hi : EM (Option Int)) : EM D := fun xq s n Q => m xq s n fun d n1 => lo xq s n1 fun l n2 => hi xq s n2 fun h n3 => ∃ r, dSl d l h = some r ∧ Q r n3
theorem ve_slice {lo hi : Option Expr} {ml mh : EM (Option Int)} {p2 : Pos} (ha : VB X E O a ma) (hl : VO X E O lo ml) (hh : VO X E O hi mh) : VE X E O (.Subscript a (.Slice lo hi none p2) pos) (eSl ma ml mh) := by
  obtain ⟨mna, ta, pa, fa⟩ := ha
  obtain ⟨mnl, tl, pl, fl⟩ := hl
  obtain ⟨mnh, th, ph, fh⟩ := hh
  refine ⟨fun xq s n Q Q' hq h => mna _ _ _ _ _ (fun _ _ h => mnl _ _ _ _ _ (fun _ _ h => mnh _ _ _ _ _ (fun _ _ ⟨r, e, q⟩ => ⟨r, e, hq _ _ q⟩) h) h) h, _,
    pe_slice (SlR.or sl_list (SlR.or sl_tupA sl_str)) pa pl ph, fun aS A0 H0 σ H s n xq Q S L hm => ?_⟩
  refine fa aS A0 H0 σ H s n xq _ S L (mna _ _ _ _ _ (fun d1 n1 q0 v1 H1 k1 st1 r0 => ?_) hm)
  refine fl aS A0 H0 σ H1 s n1 xq _ (S.step k1 st1) L (mnl _ _ _ _ _ (fun d2 n2 q2 H2 k2 st2 => ?_) q0)
  refine fh aS A0 H0 σ H2 s n2 xq _ ((S.step k1 st1).step k2 st2) L (mnh _ _ _ _ _ (fun d3 n3 q3 H3 k3 st3 => ?_) q2)
  obtain ⟨r, e, q⟩ := q3
  have r1 := (r0.kp k2 st1 AV.st).kp k3 st2 AV.st
  clear r0
  have kk := (k1.trans k2).trans k3
  have c := (S.step kk st3).cn
  unfold dSl at e
  split at e
  · cases e
    obtain ⟨p, xs, e1, _, h1, rl⟩ := repB_lst r1
    exact .inl ⟨p, xs, e1, SqL.of h1, fun q' hq' => q _ _ (kk.trans (KpS.upd hq')) (st3.upd hq') ((own_new hq' rl.cut).rep (c.new hq'))⟩
  · cases e
    rename_i ds
    obtain ⟨p, xs, e1, h1, rl⟩ := repB_tup r1
    refine .inr (.inl ⟨p, xs, e1, h1.sq, fun hw => q _ _ kk st3 (rep_tup h1 ?_), fun _ q' hq' => q _ _ (kk.trans (KpS.upd hq')) (st3.upd hq') (rep_tup (.inl upd_same) (rl.cut.kpu c hq'))⟩)
    have e2 : cutL ds d2 d3 = ds := by
      unfold cutL
      rw [← rl.length, hw.1, hw.2, List.drop_zero, Nat.sub_zero, rl.length, List.take_length]
    rw [e2]
    exact rl
  · split at e
    · rename_i x hl
      cases e
      exact .inr (.inr ⟨x, repB_str r1, lim_line hl, q _ _ kk st3 rep_str⟩)
    · cases e
  · cases e
end
/-! ### calls of built-ins -/
def dLen : List D → Option D
  | [.lst xs] => some (.int xs.length)
  | [.tup xs] => some (.int xs.length)
  | [.str x] => if x.length ≤ LIM then some (.int x.length) else none
  | [.dic kvs] => some (.int kvs.length)
  | _ => none
theorem rl_one {R : RK} {K : PySem.W.Frag} {aS : Addr} {H : Hp} {A : AS} {d : D} {vs : List V} (h : RL R K aS H A [d] vs) : ∃ v, vs = [v] ∧ R K aS H A d v := by
  obtain ⟨v, vr, e, r, q⟩ := h
  have q : vr = [] := q
  exact ⟨v, by rw [e, q], r⟩
theorem rl_two {R : RK} {K : PySem.W.Frag} {aS : Addr} {H : Hp} {A : AS} {d1 d2 : D} {vs : List V} (h : RL R K aS H A [d1, d2] vs) : ∃ v w, vs = [v, w] ∧ R K aS H A d1 v ∧ R K aS H A d2 w := by
  obtain ⟨v, vr, e, r, q⟩ := h
  obtain ⟨w, e2, r2⟩ := rl_one q
  exact ⟨v, w, by rw [e, e2], r, r2⟩
theorem RepK.length {K : PySem.W.Frag} {aS : Addr} {H : Hp} {A : AS} : ∀ {ds : List (Key × D)} {vs : List (Key × V)}, RepK K aS H A ds vs → vs.length = ds.length
  | [], _, h => by rw [RepK] at h; rw [h]; rfl
  | (k, d) :: ds, vs, h => by
    rw [RepK] at h
    obtain ⟨v, vr, e, r, q⟩ := h
    rw [e, List.length_cons, List.length_cons, RepK.length q]
theorem RepK.keys {K : PySem.W.Frag} {aS : Addr} {H : Hp} {A : AS} : ∀ {ds : List (Key × D)} {vs : List (Key × V)}, RepK K aS H A ds vs → vs.map (·.1) = ds.map (·.1)
  | [], _, h => by rw [RepK] at h; rw [h]; rfl
  | (k, d) :: ds, vs, h => by
    rw [RepK] at h
    obtain ⟨v, vr, e, r, q⟩ := h
    rw [e, List.map_cons, List.map_cons, RepK.keys q]
def kD : Key → D
  | .inl i => .int i
  | .inr x => .str x
theorem rep_kD {K : PySem.W.Frag} {aS : Addr} {H : Hp} {A : AS} (k : Key) : Rep K aS H A (kD k) (kV k) := by
  cases k with
  | inl i => exact rep_int
  | inr x => exact rep_str
theorem rep_keys {K : PySem.W.Frag} {aS : Addr} {H : Hp} {A : AS} : ∀ ks : List Key, RepL K aS H A (ks.map kD) (ks.map kV)
  | [] => RepL.nil
  | k :: ks => RepL.cons (rep_kD k) (rep_keys ks)
section
variable {X : Cx}
/-- len of a dict, locked or not -/
theorem call_lenR : CallR X (.builtin "len") (fun xs H Q => ∃ a kvs, xs = [V.ref a] ∧ Rd H a (.dK kvs) ∧ Q (.int kvs.length) H) :=
  fun _ _ _ H _ _ _ inv rel ⟨_, kvs, ex, rd, q⟩ => by
    subst ex
    obtain ⟨u, eu, ru⟩ := vals1 rel
    subst eu
    cases ru
    exact d_len inv rd fun t _ inv' => ⟨.int kvs.length, H, inv', ⟨t, rfl⟩, q⟩
theorem cd_len : CallD X (.builtin "len") dLen := by
  refine ⟨_, CallR.or call_len call_lenR, fun aS H A n ds d vs Q c rl e w => ?_⟩
  unfold dLen at e
  split at e
  · cases e
    obtain ⟨v, e1, r⟩ := rl_one rl
    obtain ⟨p, xs, e2, _, h1, q⟩ := repB_lst r
    subst e1 e2
    refine .inl ⟨_, xs.length, rfl, .inl ⟨xs, SqL.of h1, rfl⟩, ?_⟩
    rw [q.length]
    exact w _ _ KpS.refl c.st rep_int
  · cases e
    obtain ⟨v, e1, r⟩ := rl_one rl
    obtain ⟨p, xs, e2, h1, q⟩ := repB_tup r
    subst e1 e2
    refine .inl ⟨_, xs.length, rfl, .inr ⟨xs, h1.sq, rfl⟩, ?_⟩
    rw [q.length]
    exact w _ _ KpS.refl c.st rep_int
  · split at e
    · rename_i x hl
      cases e
      obtain ⟨v, e1, r⟩ := rl_one rl
      have e2 := repB_str r
      subst e1 e2
      exact .inl ⟨_, _, rfl, ⟨lim_line hl, rfl⟩, w _ _ KpS.refl c.st rep_int⟩
    · cases e
  · cases e
    obtain ⟨v, e1, r⟩ := rl_one rl
    obtain ⟨p, xs, e2, _, h1, q⟩ := repB_dic r
    subst e1 e2
    refine .inr ⟨_, xs, rfl, h1, ?_⟩
    rw [q.length]
    exact w _ _ KpS.refl c.st rep_int
  · cases e
/-- what a walk over the keys has gathered are the keys -/
theorem keys_got {kvs : List (Key × V)} {vs : List (Key × Value)} {acc : Array Value} (rel : KV kvs vs) (len : acc.size = vs.length) (each : ∀ (j : Nat) (w : Value), acc[j]? = some w → ∃ (k : Key) (y : Value), vs[j]? = some (k, y) ∧ keyIs k w = true) : Vals ((kvs.map (·.1)).map kV) acc.toList :=
  vals_of_at (by simpa [len] using KV.length rel) fun j x w ex ew => by
    obtain ⟨k, y, at_, is⟩ := each j w (by rwa [Array.getElem?_toList] at ew)
    have key : ((kvs.map (·.1)).map kV)[j]? = some (kV k) := by rw [KV.keys rel, List.getElem?_map, List.getElem?_map, at_]; rfl
    cases key.symm.trans ex
    exact keyIs_rel is
/-- list(d), whether d is locked or not -/
theorem call_listR (hc : X.calm = true) : CallR X (.type "list") (fun xs H Q => ∃ p kvs, xs = [.ref p] ∧ Rd H p (.dK kvs) ∧ ∀ q, H q = none → Q (.ref q) (upd H q (.lst ((kvs.map (·.1)).map kV)))) :=
  fun pins s σ H _ _ Q inv rel ⟨p, kvs, ex, rd, q⟩ => by
    subst ex
    obtain ⟨u, eu, ru⟩ := vals1 rel
    subst eu
    cases ru
    obtain ⟨few, notSys, vs, kv, dict⟩ := dk_rd inv.hok rd
    obtain ⟨ep, laid⟩ := dict.dictAt
    refine PySem.W.kdl_call (PySem.W.kdl_dict (knd := mixKind X.prog X.w) (kvs := vs) (ep := ep) notSys) (inv.ok.hd hc) laid (KV.length kv ▸ few) fun h' tk acc c' same made got => ?_
    have new : ObjOk X.prog X.w (upd H s.heap.objs.size (.lst ((kvs.map (·.1)).map kV))) h' s.heap.objs.size (.lst ((kvs.map (·.1)).map kV)) := ⟨by simpa using few, _, c', keys_got kv got.1 got.2, by simpa using made⟩
    exact ⟨.ref s.heap.objs.size, _, inv.laid same (Nat.le_refl _) new, rfl, q _ (inv.hok.fresh (Nat.le_refl _))⟩
def dList : List D → Option D
  | [.lst xs] => some (.lst xs)
  | [.tup xs] => some (.lst xs)
  | [.dic kvs] => some (.lst ((kvs.map (·.1)).map kD))
  | _ => none
theorem cf_list (hc : X.calm = true) : CallF X (.type "list") dList := by
  refine ⟨_, CallR.or call_list_of (call_listR hc), fun aS H A n ds d vs Q c rl e w => ?_⟩
  unfold dList at e
  split at e
  · cases e
    obtain ⟨v, e1, r⟩ := rl_one rl
    obtain ⟨p, xs, e2, _, h1, q⟩ := repB_lst r
    subst e1 e2
    exact .inl ⟨p, xs, rfl, .inl (SqL.of h1), fun l hl => w _ _ hl (KpS.upd hl) (c.st.upd hl) (own_new hl q)⟩
  · cases e
    obtain ⟨v, e1, r⟩ := rl_one rl
    obtain ⟨p, xs, e2, h1, q⟩ := repB_tup r
    subst e1 e2
    exact .inl ⟨p, xs, rfl, .inr h1.sq, fun l hl => w _ _ hl (KpS.upd hl) (c.st.upd hl) (own_new hl q)⟩
  · cases e
    obtain ⟨v, e1, r⟩ := rl_one rl
    obtain ⟨p, xs, e2, _, h1, q⟩ := repB_dic r
    subst e1 e2
    refine .inr ⟨p, xs, rfl, h1, fun l hl => w _ _ hl (KpS.upd hl) (c.st.upd hl) (own_new hl ?_)⟩
    rw [q.keys]
    exact rep_keys _
  · cases e
def dTuple : List D → Option D
  | [.lst xs] => some (.tup xs)
  | [.tup xs] => some (.tup xs)
  | _ => none
theorem cd_tuple : CallD X (.type "tuple") dTuple := by
  refine ⟨_, call_tuple_of, fun aS H A n ds d vs Q c rl e w => ?_⟩
  unfold dTuple at e
  split at e
  · cases e
    obtain ⟨v, e1, r⟩ := rl_one rl
    obtain ⟨p, xs, e2, _, h1, q⟩ := repB_lst r
    subst e1 e2
    exact ⟨p, xs, rfl, .inl ⟨SqL.of h1, fun l hl => w _ _ (KpS.upd hl) (c.st.upd hl) (rep_tup (.inl upd_same) (q.kpu c hl))⟩⟩
  · cases e
    obtain ⟨v, e1, r⟩ := rl_one rl
    obtain ⟨p, xs, e2, h1, q⟩ := repB_tup r
    subst e1 e2
    exact ⟨p, xs, rfl, .inr ⟨h1.sq, w _ _ KpS.refl c.st (rep_tup h1 q)⟩⟩
  · cases e
/-! all, any, sum -/
def boolsD : List D → Option (List Bool)
  | [] => some []
  | .bl b :: ds => (boolsD ds).map (b :: ·)
  | _ => none
theorem bools_rep {K : PySem.W.Frag} {aS : Addr} {H : Hp} {A : AS} : ∀ {ds : List D} {bs : List Bool} {vs : List V}, boolsD ds = some bs → RepL K aS H A ds vs → vs = bs.map V.bl
  | [], bs, vs, h, r => by
    rw [RepL] at r
    cases h
    exact r
  | d :: ds, bs, vs, h, r => by
    rw [RepL] at r
    obtain ⟨v, vr, e, r1, q⟩ := r
    cases d with
    | bl b =>
      rw [boolsD] at h
      cases hb : boolsD ds with
      | none => rw [hb] at h; cases h
      | some cs =>
        rw [hb] at h
        cases h
        simp only [Rep] at r1
        rw [e, r1, bools_rep hb q]
        rfl
    | _ => cases h
def dAll : List D → Option D
  | [.lst xs] => (boolsD xs).map fun bs => .bl (bs.all id)
  | _ => none
theorem cd_all (hc : X.calm = true) : CallD X (.builtin "all") dAll := by
  refine ⟨_, cr_all hc, fun aS H A n ds d vs Q c rl e w => ?_⟩
  unfold dAll at e
  split at e
  · rename_i xs
    cases hb : boolsD xs with
    | none => rw [hb] at e; cases e
    | some bs =>
      rw [hb] at e
      cases e
      obtain ⟨v, e1, r⟩ := rl_one rl
      obtain ⟨p, us, e2, _, h1, q⟩ := repB_lst r
      subst e1 e2
      rw [bools_rep hb q] at h1
      exact ⟨p, bs, rfl, SqL.of h1, w _ _ KpS.refl c.st rep_bl⟩
  · cases e
/-! isinstance -/
def tyD : D → Option String
  | .non => some "NoneType"
  | .bl _ => some "bool"
  | .int _ => some "int"
  | .str _ => some "str"
  | .lst _ => some "list"
  | .tup _ => some "tuple"
  | .dic _ => some "dict"
  | _ => none
def isTy (a b : String) : Bool := a == b || (a == "bool" && b == "int")
def isB (b : String) : Bool := b == "int" || b == "bool" || b == "str" || b == "list" || b == "tuple" || b == "dict"
theorem kit_tab : ∀ a ∈ ["NoneType", "bool", "int", "str", "list", "tuple", "dict"], ∀ b ∈ ["int", "bool", "str", "list", "tuple", "dict"], kitB a b = some (isTy a b) := by decide +kernel
theorem kit_of_ty {K : PySem.W.Frag} {a b : String} (ha : a ∈ ["NoneType", "bool", "int", "str", "list", "tuple", "dict"]) (hb : isB b = true) : PySem.W.kitOne K (.type a) (.type b) = some (isTy a b) := by
  refine kit_ty (kit_tab a ha b ?_)
  simpa [isB, Bool.or_eq_true, or_assoc] using hb
theorem tyX_of {K : PySem.W.Frag} {aS : Addr} {H : Hp} {A : AS} {d : D} {v : V} {a : String} (h : tyD d = some a) (r : RepB K aS H A d v) : TyX K H v (.type a) ∧ a ∈ ["NoneType", "bool", "int", "str", "list", "tuple", "dict"] := by
  cases d <;> simp only [tyD, Option.some.injEq, reduceCtorEq] at h <;> subst h
  · rw [repB_non r]; exact ⟨.base .non, by simp⟩
  · rw [repB_bl r]; exact ⟨.base (.bl _), by simp⟩
  · rw [repB_int r]; exact ⟨.base (.int _), by simp⟩
  · rw [repB_str r]; exact ⟨.base (.str _), by simp⟩
  · obtain ⟨p, xs, e, h1, q⟩ := repB_tup r
    subst e
    refine ⟨?_, by simp⟩
    rcases h1 with h1 | ⟨o, its, n, hk, hc, _⟩
    · exact .base (.tup h1)
    · exact .kTuple hk hc
  · obtain ⟨p, xs, e, _, h1, q⟩ := repB_lst r
    subst e
    exact ⟨.base (.lst h1), by simp⟩
  · obtain ⟨p, xs, e, _, h1, q⟩ := repB_dic r
    subst e
    refine ⟨?_, by simp⟩
    rcases h1 with h1 | ⟨o, h1⟩
    · exact .base (.dK h1)
    · exact .fDict h1
def tysD : List D → Option (List String)
  | [] => some []
  | .raw (.ty T) :: ds => if isB T = true then (tysD ds).map (T :: ·) else none
  | _ => none
theorem tys_rep {K : PySem.W.Frag} {aS : Addr} {H : Hp} {A : AS} {a : String} (ha : a ∈ ["NoneType", "bool", "int", "str", "list", "tuple", "dict"]) : ∀ {ds : List D} {bs : List String} {vs : List V}, tysD ds = some bs → RepL K aS H A ds vs →
    Paired ClsV vs (bs.map Value.type) ∧ PySem.W.kitAny K (.type a) (bs.map Value.type) = some (bs.any (isTy a))
  | [], bs, vs, h, r => by
    rw [RepL] at r
    subst r
    cases h
    exact ⟨.nil, rfl⟩
  | d :: ds, bs, vs, h, r => by
    rw [RepL] at r
    obtain ⟨v, vr, e, r1, q⟩ := r
    subst e
    unfold tysD at h
    split at h
    · rename_i hz; cases hz
    · rename_i T ds' heq
      cases heq
      split at h
      · rename_i hT
        cases hb : tysD ds with
        | none => rw [hb] at h; cases h
        | some cs =>
          rw [hb] at h
          cases h
          obtain ⟨i1, i2⟩ := tys_rep ha hb q
          simp only [Rep] at r1
          subst r1
          refine ⟨.cons (.ty T) i1, ?_⟩
          rw [List.map_cons, List.any_cons]
          refine kitAny_cons (kit_of_ty ha hT) (fun z => ?_) (fun z => ?_)
          · rw [z, Bool.false_or]; exact i2
          · rw [z]; rfl
      · cases h
    · cases h
def dIsi : List D → Option D
  | [x, .raw (.ty T)] => if isB T = true then (tyD x).map fun a => .bl (isTy a T) else none
  | [x, .tup ts] => match tyD x, tysD ts with
    | some a, some bs => some (.bl (bs.any (isTy a)))
    | _, _ => none
  | _ => none
theorem cd_isi : CallD X (.builtin "isinstance") dIsi := by
  refine ⟨_, CallR.or call_isi (CallR.or call_isiT call_isiK), fun aS H A n ds d vs Q c rl e w => ?_⟩
  unfold dIsi at e
  split at e
  · rename_i x T
    split at e
    · rename_i hT
      cases ht : tyD x with
      | none => rw [ht] at e; cases e
      | some a =>
        rw [ht] at e
        cases e
        obtain ⟨v, u, e1, r1, r2⟩ := rl_two rl
        have e2 := repB_raw r2
        subst e1 e2
        obtain ⟨t1, t2⟩ := tyX_of ht r1
        exact .inl ⟨v, .ty T, .type a, .type T, _, rfl, .ty T, t1, kit_of_ty t2 hT, w _ _ KpS.refl c.st rep_bl⟩
    · cases e
  · rename_i x ts
    split at e
    · rename_i a bs ht hts
      cases e
      obtain ⟨v, u, e1, r1, r2⟩ := rl_two rl
      obtain ⟨p, us, e2, h1, q⟩ := repB_tup r2
      subst e1 e2
      obtain ⟨t1, t2⟩ := tyX_of ht r1
      obtain ⟨i1, i2⟩ := tys_rep t2 hts q
      rcases h1 with h1 | ⟨⟨oc, od, odt, osl⟩, its, n, hk, hc, hdt, _, hv⟩
      · exact .inr (.inl ⟨v, p, us, .type a, bs.map Value.type, _, rfl, h1, i1, t1, i2, w _ _ KpS.refl c.st rep_bl⟩)
      · cases hc
        cases hdt
        have ez := ClsV.all i1 hv
        refine .inr (.inr ⟨v, p, od, bs.map Value.type, n, osl, .type a, _, rfl, ?_, t1, i2, w _ _ KpS.refl c.st rep_bl⟩)
        rw [hk, ← ez, Array.toArray_toList]
    · cases e
  · cases e
end
end DL
namespace DL
open PySem PySem.Spec PyProof.Rows L2
variable [TabC]
section
variable {K : PySem.W.Frag} {aS a : Addr} {H H' H'' H0 H1 : Hp} {A A' : AS} {A0 : A0T} {O O' : List Nat} {σ : L2.St} {s : Ev} {n n' i : Nat} {d : D} {v : V}
theorem set_other {α : Type} {l : List α} {i j : Nat} {x : α} (h : j ≠ i) : (l.set i x)[j]? = l[j]? := List.getElem?_set_ne (Ne.symm h)
theorem AV.set {A0 : AS} {x : Option V} (hi : i ∉ O) : AV aS A0 O (σ.set i x) = AV aS A0 O σ := by
  funext b
  unfold AV
  refine propext ⟨fun h => ?_, fun h => ?_⟩
  · rcases h with h | h | ⟨j, hj, e⟩
    · exact .inl h
    · exact .inr (.inl h)
    · rw [set_other (show j ≠ i from fun z => hi (z ▸ hj))] at e
      exact .inr (.inr ⟨j, hj, e⟩)
  · rcases h with h | h | ⟨j, hj, e⟩
    · exact .inl h
    · exact .inr (.inl h)
    · refine .inr (.inr ⟨j, hj, ?_⟩)
      rw [set_other (show j ≠ i from fun z => hi (z ▸ hj))]
      exact e
/-- a slot that owns nothing is stored -/
theorem SR.set (S : SR K aS O A0 H0 σ H s n) (hi : i ∉ O) (r : Rep K aS H (AV aS A0 O σ) d v) : SR K aS O A0 H0 (σ.set i (some v)) H (s.set i (some d)) n where
  len := by rw [List.length_set, List.length_set]; exact S.len
  sh := fun j d' e hj => by
    rw [AV.set hi]
    by_cases hji : j = i
    · subst hji
      have hl : j < s.length := by
        have := (List.getElem?_eq_some_iff.mp e).1
        rwa [List.length_set] at this
      rw [List.getElem?_set_self hl] at e
      cases e
      exact ⟨v, List.getElem?_set_self (by rw [S.len]; exact hl), r⟩
    · rw [set_other hji] at e
      rw [set_other hji]
      exact S.sh j d' e hj
  ow := fun j hj => by
    have hji : j ≠ i := fun z => hi (z ▸ hj)
    rw [AV.set hi, set_other hji, set_other hji]
    exact S.ow j hj
  ds := fun j k b hj hk e1 e2 => by
    rw [set_other (show j ≠ i from fun z => hi (z ▸ hj))] at e1
    rw [set_other (show k ≠ i from fun z => hi (z ▸ hk))] at e2
    exact S.ds j k b hj hk e1 e2
  fr := S.fr
  st := S.st
  av := S.av
  pn := fun h a e => by
    rw [set_other (show 0 ≠ i from fun z => hi (z ▸ h))]
    exact S.pn h a e
/-- slots give up what they own -/
theorem SR.rel (S : SR K aS O A0 H0 σ H s n) (h : ∀ j, j ∈ O' → j ∈ O) : SR K aS O' A0 H0 σ H s n := by
  have hle : ∀ b, AV aS A0 O' σ b → AV aS A0 O σ b := fun b z => by
    rcases z with z | z | ⟨j, hj, e⟩
    · exact .inl z
    · exact .inr (.inl z)
    · exact .inr (.inr ⟨j, h j hj, e⟩)
  refine ⟨S.len, fun j d' e hj => ?_, fun j hj => ?_, fun j k b hj hk => S.ds j k b (h j hj) (h k hk), S.fr, S.st, S.av, fun z => S.pn (h 0 z)⟩
  · by_cases ho : j ∈ O
    · obtain ⟨d'', b, e1, e2, e3, e4, e5, e6⟩ := S.ow j ho
      rw [e] at e1
      cases e1
      refine ⟨_, e2, (e6.mono hle).rep0 fun z => ?_⟩
      rcases z with z | z | ⟨k, hk, e⟩
      · exact e4 z
      · exact e5 z
      · exact hj (S.ds j k b ho (h k hk) e2 e ▸ hk)
    · obtain ⟨v, e1, r⟩ := S.sh j d' e ho
      exact ⟨v, e1, Rep.mono (sub_le hle) _ _ r⟩
  · obtain ⟨d'', b, e1, e2, e3, e4, e5, e6⟩ := S.ow j (h j hj)
    exact ⟨d'', b, e1, e2, e3, e4, e5, e6.mono hle⟩
/-- a new object is owned by a slot -/
theorem SR.own (S : SR K aS O A0 H0 σ H s n) (hi : i ∉ O) (hi0 : i ≠ 0) (hl : i < s.length) (ha : H a = none) (k : KpS aS H H') (t : StA K aS H' n') (o : Own K aS H' (fun b => AV aS A0 O σ b ∨ b = a) a d) : SR K aS (i :: O) A0 H0 (σ.set i (some (.ref a))) H' (s.set i (some d)) n' := by
  have hlσ : i < σ.length := by rw [S.len]; exact hl
  have eA : AV aS A0 (i :: O) (σ.set i (some (.ref a))) = fun b => AV aS A0 O σ b ∨ b = a := by
    funext b
    refine propext ⟨fun z => ?_, fun z => ?_⟩
    · rcases z with z | z | ⟨j, hj, e⟩
      · exact .inl (.inl z)
      · exact .inl (.inr (.inl z))
      · by_cases hji : j = i
        · subst hji
          rw [List.getElem?_set_self hlσ] at e
          cases e
          exact .inr rfl
        · rw [set_other hji] at e
          exact .inl (.inr (.inr ⟨j, (List.mem_cons.mp hj).resolve_left hji, e⟩))
    · rcases z with (z | z | ⟨j, hj, e⟩) | z
      · exact .inl z
      · exact .inr (.inl z)
      · refine .inr (.inr ⟨j, List.mem_cons_of_mem _ hj, ?_⟩)
        rw [set_other (show j ≠ i from fun z => hi (z ▸ hj))]
        exact e
      · refine .inr (.inr ⟨i, List.mem_cons_self, ?_⟩)
        rw [z]
        exact List.getElem?_set_self hlσ
  have hs := S.st.lst
  have sub : Sub K H H' (AV aS A0 O σ) (fun b => AV aS A0 O σ b ∨ b = a) := by
    obtain ⟨ys, hs⟩ := hs
    have ne : ∀ b, ¬ AV aS A0 O σ b → b ≠ aS := fun b h e => h (.inr (.inl e))
    refine ⟨fun b xs h q => ⟨fun z => z.elim h (ne_of_none q ha), k _ _ q (ne b h)⟩, fun b xs q => TpA.kp k hs q, fun b ys h q => ⟨fun z => z.elim h ?_, Rd.kp k (ne b h) q⟩, fun b ys h q => ⟨fun z => z.elim h ?_, RdM.kp k (ne b h) q⟩, fun b C dx ys h q => ⟨fun z => z.elim h (ne_of_none q ha), k _ _ q (ne b h)⟩, fun b u hu h q => ⟨fun z => z.elim h (ne_of_none q ha), k.xo hu q (ne b h)⟩⟩
    all_goals
      rcases q with q | ⟨_, q⟩
      · exact ne_of_none q ha
      · exact ne_of_none q ha
  have own_at : ∀ j, j ∈ O → ∃ d' b, s[j]? = some (some d') ∧ σ[j]? = some (some (.ref b)) ∧ H0 b = none ∧ ¬ A0 b ∧ b ≠ aS ∧ b ≠ a ∧ Own K aS H' (fun b => AV aS A0 O σ b ∨ b = a) b d' := fun j hj => by
    obtain ⟨d', b, e1, e2, e3, e4, e5, e6⟩ := S.ow j hj
    refine ⟨d', b, e1, e2, e3, e4, e5, fun z => S.new ha (.inr (.inr ⟨j, hj, z ▸ e2⟩)), ?_⟩
    cases d' with
    | lst ds => obtain ⟨xs, e, q⟩ := e6; exact ⟨xs, k _ _ e e5, RepL.mono sub _ _ q⟩
    | dic ds => obtain ⟨xs, e, q⟩ := e6; exact ⟨xs, k _ _ e e5, RepK.mono sub _ _ q⟩
    | dmx ds => obtain ⟨xs, e, q⟩ := e6; exact ⟨xs, k _ _ e e5, RepP.mono sub _ _ q⟩
    | obj C ds => obtain ⟨dx, xs, e, q⟩ := e6; exact ⟨dx, xs, k _ _ e e5, RepF.mono sub _ _ q⟩
    | _ => exact e6.elim
  refine ⟨by rw [List.length_set, List.length_set]; exact S.len, fun j d' e hj => ?_, fun j hj => ?_, fun j l b hj hk e1 e2 => ?_, S.fr.trans k, t, (S.step k t).av, fun z b e => by
    rw [set_other (Ne.symm hi0)]
    exact S.pn ((List.mem_cons.mp z).resolve_left (Ne.symm hi0)) b e⟩
  · rw [eA]
    have hji : j ≠ i := fun z => hj (z ▸ List.mem_cons_self)
    rw [set_other hji] at e ⊢
    obtain ⟨v, e1, r⟩ := S.sh j d' e (fun z => hj (List.mem_cons_of_mem _ z))
    exact ⟨v, e1, Rep.mono sub _ _ r⟩
  · rw [eA]
    by_cases hji : j = i
    · subst hji
      rw [List.getElem?_set_self hl, List.getElem?_set_self hlσ]
      refine ⟨d, a, rfl, rfl, ?_, fun z => S.new ha (.inl z), fun z => S.new ha (.inr (.inl z)), o⟩
      cases e : H0 a with
      | none => rfl
      | some u =>
        exact (KpS.gone S.fr ha e (fun z => S.new ha (.inr (.inl z)))).elim
    · rw [set_other hji, set_other hji]
      obtain ⟨d', b, e1, e2, e3, e4, e5, e6, e7⟩ := own_at j ((List.mem_cons.mp hj).resolve_left hji)
      exact ⟨d', b, e1, e2, e3, e4, e5, e7⟩
  · by_cases hji : j = i
    · by_cases hki : l = i
      · rw [hji, hki]
      · rw [hji, List.getElem?_set_self hlσ] at e1
        rw [set_other hki] at e2
        cases e1
        exact (S.new ha (.inr (.inr ⟨l, (List.mem_cons.mp hk).resolve_left hki, e2⟩))).elim
    · by_cases hki : l = i
      · rw [hki, List.getElem?_set_self hlσ] at e2
        rw [set_other hji] at e1
        cases e2
        exact (S.new ha (.inr (.inr ⟨j, (List.mem_cons.mp hj).resolve_left hji, e1⟩))).elim
      · rw [set_other hji] at e1
        rw [set_other hki] at e2
        exact S.ds j l b ((List.mem_cons.mp hj).resolve_left hji) ((List.mem_cons.mp hk).resolve_left hki) e1 e2
/-- what a slot owns is changed -/
theorem SR.mut {o o' : HO} (S : SR K aS O A0 H0 σ H s n) (hi : i ∈ O) (e : σ[i]? = some (some (.ref a))) (ho : H a = some o) (hk : ∀ xs, o ≠ .tup xs) (hf : ∀ ob u, o ≠ .frz ob u)
    (new : Own K aS (upd H a o') (AV aS A0 O σ) a d) : SR K aS O A0 H0 σ (upd H a o') (s.set i (some d)) n := by
  obtain ⟨d0, a', e1, e2, e3, e4, e5, e6⟩ := S.ow i hi
  rw [e] at e2
  cases e2
  have hl : i < s.length := (List.getElem?_eq_some_iff.mp e1).1
  have hA : AV aS A0 O σ a := .inr (.inr ⟨i, hi, e⟩)
  have up : ∀ b u, H b = some u → b ≠ a → upd H a o' b = some u := fun b u q z => by rw [upd_ne z]; exact q
  have sub : Sub K H (upd H a o') (AV aS A0 O σ) (AV aS A0 O σ) := by
    have ne : ∀ b, ¬ AV aS A0 O σ b → b ≠ a := fun b h z => h (z ▸ hA)
    refine ⟨fun b xs h q => ⟨h, up _ _ q (ne b h)⟩, fun b xs q => q.elim (fun q => .inl (up _ _ q fun z => ?_)) .inr, fun b ys h q => ⟨h, ?_⟩, fun b ys h q => ⟨h, ?_⟩, fun b C dx ys h q => ⟨h, up _ _ q (ne b h)⟩, fun b u _ h q => ⟨h, up _ _ q (ne b h)⟩⟩
    · rw [z, ho] at q
      cases q
      exact hk _ rfl
    all_goals
      rcases q with q | ⟨z, q⟩
      · exact .inl (up _ _ q (ne b h))
      · exact .inr ⟨z, up _ _ q (ne b h)⟩
  refine ⟨by rw [List.length_set]; exact S.len, fun j d' ej hj => ?_, fun j hj => ?_, S.ds, fun b u q z => (S.fr b u q z).trans fun v e' => .of (up _ _ e' (fun z => by rw [z, e3] at q; cases q)), ?_, fun b hb => ?_, S.pn⟩
  · have hji : j ≠ i := fun z => hj (z ▸ hi)
    rw [set_other hji] at ej
    obtain ⟨v, q1, r⟩ := S.sh j d' ej hj
    exact ⟨v, q1, Rep.mono sub _ _ r⟩
  · by_cases hji : j = i
    · subst hji
      rw [List.getElem?_set_self hl]
      exact ⟨d, a, rfl, e, e3, e4, e5, new⟩
    · rw [set_other hji]
      obtain ⟨d', b, q1, q2, q3, q4, q5, q6⟩ := S.ow j hj
      have hb : b ≠ a := fun z => hji (S.ds j i a hj hi (z ▸ q2) e)
      refine ⟨d', b, q1, q2, q3, q4, q5, ?_⟩
      cases d' with
      | lst ds => obtain ⟨xs, e, q⟩ := q6; exact ⟨xs, up _ _ e hb, RepL.mono sub _ _ q⟩
      | dic ds => obtain ⟨xs, e, q⟩ := q6; exact ⟨xs, up _ _ e hb, RepK.mono sub _ _ q⟩
      | dmx ds => obtain ⟨xs, e, q⟩ := q6; exact ⟨xs, up _ _ e hb, RepP.mono sub _ _ q⟩
      | obj C ds => obtain ⟨dx, xs, e, q⟩ := q6; exact ⟨dx, xs, up _ _ e hb, RepF.mono sub _ _ q⟩
      | _ => exact q6.elim
  · obtain ⟨a0, cs, i', g, m, d', z1, z2, ⟨ob, z3⟩, z4, z5, z6, z7, z8, z9, zt⟩ := S.st
    refine ⟨a0, cs, i', g, m, d', up _ _ z1 (Ne.symm e5), z2, ⟨ob, up _ _ z3 fun z => ?_⟩, z4, z5, z6, z7, z8, z9, tabs_poke zt ho (e6.plain ho).1 (e6.plain ho).2 (new.plain upd_same).1⟩
    rw [z, ho] at z3
    cases z3
    exact hf _ _ rfl
  · by_cases z : b = a
    · rw [z, upd_same]
      exact ⟨_, rfl⟩
    · obtain ⟨u, q⟩ := S.av b hb
      exact ⟨u, up _ _ q z⟩
/-- the heap without what slots own: what a loop's body starts from -/
noncomputable def bare (O : List Nat) (σ : L2.St) (H : Hp) : Hp := fun b => @ite _ (∃ i, i ∈ O ∧ σ[i]? = some (some (.ref b))) (Classical.propDecidable _) none (H b)
theorem bare_own {b : Addr} (h : ∃ i, i ∈ O ∧ σ[i]? = some (some (.ref b))) : bare O σ H b = none := by
  unfold bare
  rw [if_pos h]
theorem bare_not {b : Addr} (h : ¬ ∃ i, i ∈ O ∧ σ[i]? = some (some (.ref b))) : bare O σ H b = H b := by
  unfold bare
  rw [if_neg h]
theorem bare_some {b : Addr} {u : HO} (h : bare O σ H b = some u) : H b = some u := by
  by_cases z : ∃ i, i ∈ O ∧ σ[i]? = some (some (.ref b))
  · rw [bare_own z] at h; cases h
  · rw [bare_not z] at h; exact h
theorem SR.base (S : SR K aS O A0 H0 σ H s n) : SR K aS O A0 (bare O σ H) σ H s n :=
  ⟨S.len, S.sh, fun j hj => let ⟨d, b, e1, e2, e3, e4, e5, e6⟩ := S.ow j hj; ⟨d, b, e1, e2, bare_own ⟨j, hj, e2⟩, e4, e5, e6⟩, S.ds, fun b u q _ => .of (bare_some q), S.st, S.av, S.pn⟩
theorem SR.le (S : SR K aS O A0 H0 σ H s n) : KpS aS H0 (bare O σ H) := fun b u q z => by
  rw [bare_not]
  · exact S.fr b u q z
  · rintro ⟨j, hj, e⟩
    obtain ⟨d, b', e1, e2, e3, _⟩ := S.ow j hj
    rw [e] at e2
    cases e2
    rw [q] at e3
    cases e3
/-- from a later base back to the elder one -/
theorem SR.back (S : SR K aS O A0 H1 σ H s n) (h : KpS aS H0 H1) : SR K aS O A0 H0 σ H s n :=
  ⟨S.len, S.sh, fun j hj => let ⟨d, b, e1, e2, e3, e4, e5, e6⟩ := S.ow j hj
    ⟨d, b, e1, e2, Option.eq_none_iff_forall_ne_some.mpr fun u z => (KpS.gone h e3 z e5), e4, e5, e6⟩, S.ds, h.trans S.fr, S.st, S.av, S.pn⟩
end
end DL
namespace DL
open PySem PySem.Spec PyProof.Rows L2
variable [TabC]
/-! ### statements -/
def sNil : SM := fun _ de s n => de.nx s n
def sSeq (m r : SM) : SM := fun xq de s n => m xq { de with nx := fun s' n' => r xq de s' n' } s n
def sRet (m : EM D) : SM := fun xq de s n => m xq s n de.rt
def sSet (i : Nat) (m : EM D) : SM := fun xq de s n => m xq s n fun d n' => de.nx (s.set i (some d)) n'
def sIf (t : EM Bool) (a b : SM) : SM := fun xq de s n => t xq s n fun c n' => if c = true then a xq de s n' else b xq de s n'
def sDrop (m : EM D) : SM := fun xq de s n => m xq s n fun _ n' => de.nx s n'
section
variable {X : Cx} {E : XK} {O O' O'' OL : List Nat} {e : Expr} {st : Stmt} {rest : List Stmt} {m : EM D} {ml : EM (List D)} {mt : EM Bool} {ms mr : SM} {pos : Pos} {i : Nat}
theorem vss_nil : VSs X E O O OL [] sNil := ⟨_, pss_nil, fun aS A0 H0 σ H s n xq de De S L k h => k.nx σ H s n S h⟩
theorem vss_cons (h1 : VS X E O O' OL st ms) (h2 : VSs X E O' O'' OL rest mr) : VSs X E O O'' OL (st :: rest) (sSeq ms mr) := by
  obtain ⟨t, p, f⟩ := h1
  obtain ⟨u, p2, f2⟩ := h2
  exact ⟨_, pss_cons p p2, fun aS A0 H0 σ H s n xq de De S L k h => f aS A0 H0 σ H s n xq { de with nx := fun s' n' => mr xq de s' n' } _ S L ⟨fun σ' H' s' n' S' q => f2 aS A0 H0 σ' H' s' n' xq de De S' L k q, k.rt, k.bk, k.ct⟩ h⟩
theorem vss_one (h1 : VS X E O O' OL st ms) : VSs X E O O' OL [st] ms := by
  obtain ⟨t, p, f⟩ := h1
  exact ⟨_, pss_one p, f⟩
/-- what is owned behind may be given up -/
theorem VSs.weak (h : VSs X E O O' OL rest ms) (hw : ∀ j, j ∈ O'' → j ∈ O') : VSs X E O O'' OL rest ms := by
  obtain ⟨t, p, f⟩ := h
  exact ⟨t, p, fun aS A0 H0 σ H s n xq de De S L k q => f aS A0 H0 σ H s n xq de De S L ⟨fun σ' H' s' n' S' q => k.nx σ' H' s' n' (S'.rel hw) q, k.rt, k.bk, k.ct⟩ q⟩
theorem av_nil {aS : Addr} {A0 : AS} {O : List Nat} {σ : L2.St} : ∀ a, AV aS A0 [] [] a → AV aS A0 O σ a := fun a h => by
  rcases h with h | h | ⟨j, hj, _⟩
  · exact .inl h
  · exact .inr (.inl h)
  · cases hj
theorem vs_ret (h : VE X E O e m) : VS X E O O' OL (.Return (some e) pos) (sRet m) := by
  obtain ⟨mn, t, p, f⟩ := h
  refine ⟨_, ps_ret p, fun aS A0 H0 σ H s n xq de De S L k h => f aS A0 H0 σ H s n xq _ S L (mn _ _ _ _ _ (fun d n' q v H' kp st r => k.rt v H' d n' (S.fr.trans kp) st (Rep.mono (sub_le av_nil) _ _ r) q) h)⟩
/-- return of a name that owns -/
theorem vs_retO {x : Str} {p' : Pos} (hi : i ∈ O) (hN : X.N[i]? = some x) (hv : Vis X.env.scope x) (hd : (x == ("__debug__" : Str)) = false := by decide) (hcd : (x == ("__classdict__" : Str)) = false := by decide) : VS X E O O' OL (.Return (some (.Name x p')) pos) (sRet (eVar i)) := by
  refine ⟨_, ps_ret (pe_var hN hv hd hcd), fun aS A0 H0 σ H s n xq de De S L k h => ?_⟩
  obtain ⟨d, e, q⟩ := h
  have S' := S.rel (O' := []) (fun _ z => nomatch z)
  obtain ⟨v, ev, r⟩ := S'.sh i d e (fun z => nomatch z)
  exact ⟨v, ev, k.rt v H d n S.fr S.st (Rep.mono (sub_le av_nil) _ _ r) q⟩
theorem vs_if {c : Expr} {a b : List Stmt} {ma mb : SM} (hc : VT X E O c mt) (ha : VSs X E O O' OL a ma) (hb : VSs X E O O' OL b mb) : VS X E O O' OL (.If c a b pos) (sIf mt ma mb) := by
  obtain ⟨mnc, tc, pc, fc⟩ := hc
  obtain ⟨ta, pa, fa⟩ := ha
  obtain ⟨tb, pb, fb⟩ := hb
  refine ⟨_, ps_if pc pa pb, fun aS A0 H0 σ H s n xq de De S L k h => fc aS A0 H0 σ H s n xq _ S L (mnc _ _ _ _ _ (fun c n1 q H1 k1 st1 => ?_) h)⟩
  cases c with
  | true => exact fa aS A0 H0 σ H1 s n1 xq de De (S.step k1 st1) L k q
  | false => exact fb aS A0 H0 σ H1 s n1 xq de De (S.step k1 st1) L k q
/-- name = e, the name owns nothing behind -/
theorem vs_set {x : Str} {p' : Pos} (hi : i ∉ O) (hnd : X.N.Nodup) (hN : X.N[i]? = some x) (hx : Loc X.env.scope x) (h : VE X E O e m) (hs : swapsWith e (some (.Name x p')) pos.line X.env = pure false := by rfl)
    (hf : X.fn x = true ∨ X.env.scope.names.lookup x = some .local := by first | exact .inl rfl | exact .inr rfl | assumption) : VS X E O O OL (.Assign [.Name x p'] e pos) (sSet i m) := by
  obtain ⟨mn, t, p, f⟩ := h
  refine ⟨_, ps_set hnd hN hx p hs hf, fun aS A0 H0 σ H s n xq de De S L k h => f aS A0 H0 σ H s n xq _ S L (mn _ _ _ _ _ (fun d n' q v H' kp st r => ?_) h)⟩
  exact k.nx _ H' _ n' ((S.step kp st).set hi r) q
/-- name = a new object: the name owns it -/
theorem vs_setF {x : Str} {p' : Pos} (hi : i ∉ O) (hi0 : i ≠ 0) (hnd : X.N.Nodup) (hN : X.N[i]? = some x) (hx : Loc X.env.scope x) (h : VF X E O e m) (hs : swapsWith e (some (.Name x p')) pos.line X.env = pure false := by rfl)
    (hf : X.fn x = true ∨ X.env.scope.names.lookup x = some .local := by first | exact .inl rfl | exact .inr rfl | assumption) : VS X E O (i :: O) OL (.Assign [.Name x p'] e pos) (fun xq de s n => i < s.length ∧ sSet i m xq de s n) := by
  obtain ⟨mn, t, p, f⟩ := h
  refine ⟨_, ps_set hnd hN hx p hs hf, fun aS A0 H0 σ H s n xq de De S L k h => f aS A0 H0 σ H s n xq _ S L (mn _ _ _ _ _ (fun d n' q a H' ha kp st o => ?_) h.2)⟩
  exact k.nx _ H' _ n' (S.own hi hi0 h.1 ha kp st o) q
theorem vs_expr (h : VE X E O e m) (hs : swapsWith e none pos.line X.env = pure false := by rfl) : VS X E O O OL (.Expr e pos) (sDrop m) := by
  obtain ⟨mn, t, p, f⟩ := h
  exact ⟨_, ps_expr p hs, fun aS A0 H0 σ H s n xq de De S L k h => f aS A0 H0 σ H s n xq _ S L (mn _ _ _ _ _ (fun d n' q v H' kp st r => k.nx _ H' _ n' (S.step kp st) q) h)⟩
/-! ### lists that are owned -/
def sApp (i : Nat) (m : EM D) : SM := fun xq de s n => ∃ ds, s[i]? = some (some (.lst ds)) ∧ m xq s n fun d n' => ds.length < LIM ∧ de.nx (s.set i (some (.lst (ds ++ [d])))) n'
def sIns (i : Nat) (m : EM (List D)) : SM := fun xq de s n => ∃ ds, s[i]? = some (some (.lst ds)) ∧ m xq s n fun l n' => ∃ (k : Nat) (d : D), l = [.int k, d] ∧ ds.length < LIM ∧ k ≤ LIM ∧ de.nx (s.set i (some (.lst (ds.take k ++ [d] ++ ds.drop k)))) n'
theorem own_lst {K : PySem.W.Frag} {aS : Addr} {H H0 : Hp} {A0 : A0T} {O : List Nat} {σ : L2.St} {s : Ev} {n i : Nat} {ds : List D} (S : SR K aS O A0 H0 σ H s n) (hi : i ∈ O) (e : s[i]? = some (some (.lst ds))) : ∃ a xs, σ[i]? = some (some (.ref a)) ∧ a ≠ aS ∧ H a = some (.lst xs) ∧ RepL K aS H (AV aS A0 O σ) ds xs := by
  obtain ⟨d, a, e1, e2, e3, e4, e5, e6⟩ := S.ow i hi
  rw [e] at e1
  cases e1
  obtain ⟨xs, h, r⟩ := e6
  exact ⟨a, xs, e2, e5, h, r⟩
theorem own_dic {K : PySem.W.Frag} {aS : Addr} {H H0 : Hp} {A0 : A0T} {O : List Nat} {σ : L2.St} {s : Ev} {n i : Nat} {ds : List (Key × D)} (S : SR K aS O A0 H0 σ H s n) (hi : i ∈ O) (e : s[i]? = some (some (.dic ds))) : ∃ a xs, σ[i]? = some (some (.ref a)) ∧ a ≠ aS ∧ H a = some (.dK xs) ∧ RepK K aS H (AV aS A0 O σ) ds xs := by
  obtain ⟨d, a, e1, e2, e3, e4, e5, e6⟩ := S.ow i hi
  rw [e] at e1
  cases e1
  obtain ⟨xs, h, r⟩ := e6
  exact ⟨a, xs, e2, e5, h, r⟩
/-- the list a slot owns is another one -/
theorem SR.mutL {K : PySem.W.Frag} {aS a : Addr} {H H0 : Hp} {A0 : A0T} {σ : L2.St} {s : Ev} {n : Nat} {ds : List D} {xs ys : List V} (S : SR K aS O A0 H0 σ H s n) (hi : i ∈ O) (e : σ[i]? = some (some (.ref a))) (ho : H a = some (.lst xs)) (r : RepL K aS H (AV aS A0 O σ) ds ys) :
    SR K aS O A0 H0 σ (upd H a (.lst ys)) (s.set i (some (.lst ds))) n := by
  refine S.mut hi e ho (fun _ z => nomatch z) (fun _ _ z => nomatch z) ⟨ys, upd_same, ?_⟩
  have hA : AV aS A0 O σ a := .inr (.inr ⟨i, hi, e⟩)
  have ne : ∀ b, ¬ AV aS A0 O σ b → b ≠ a := fun b h z => h (z ▸ hA)
  have up : ∀ b u, H b = some u → b ≠ a → upd H a (.lst ys) b = some u := fun b u q z => by rw [upd_ne z]; exact q
  refine RepL.mono ⟨fun b xs h q => ⟨h, up _ _ q (ne b h)⟩, fun b xs q => q.elim (fun q => .inl (up _ _ q fun z => ?_)) .inr, fun b ys h q => ⟨h, ?_⟩, fun b ys h q => ⟨h, ?_⟩, fun b C dx ys h q => ⟨h, up _ _ q (ne b h)⟩, fun b u _ h q => ⟨h, up _ _ q (ne b h)⟩⟩ _ _ r
  · have q : H b = _ := q
    rw [z, ho] at q
    cases q
  all_goals
    rcases q with q | ⟨z, q⟩
    · exact .inl (up _ _ q (ne b h))
    · exact .inr ⟨z, up _ _ q (ne b h)⟩
theorem SR.mutD {K : PySem.W.Frag} {aS a : Addr} {H H0 : Hp} {A0 : A0T} {σ : L2.St} {s : Ev} {n : Nat} {ds : List (Key × D)} {xs ys : List (Key × V)} (S : SR K aS O A0 H0 σ H s n) (hi : i ∈ O) (e : σ[i]? = some (some (.ref a))) (ho : H a = some (.dK xs)) (r : RepK K aS H (AV aS A0 O σ) ds ys) :
    SR K aS O A0 H0 σ (upd H a (.dK ys)) (s.set i (some (.dic ds))) n := by
  refine S.mut hi e ho (fun _ z => nomatch z) (fun _ _ z => nomatch z) ⟨ys, upd_same, ?_⟩
  have hA : AV aS A0 O σ a := .inr (.inr ⟨i, hi, e⟩)
  have ne : ∀ b, ¬ AV aS A0 O σ b → b ≠ a := fun b h z => h (z ▸ hA)
  have up : ∀ b u, H b = some u → b ≠ a → upd H a (.dK ys) b = some u := fun b u q z => by rw [upd_ne z]; exact q
  refine RepK.mono ⟨fun b xs h q => ⟨h, up _ _ q (ne b h)⟩, fun b xs q => q.elim (fun q => .inl (up _ _ q fun z => ?_)) .inr, fun b ys h q => ⟨h, ?_⟩, fun b ys h q => ⟨h, ?_⟩, fun b C dx ys h q => ⟨h, up _ _ q (ne b h)⟩, fun b u _ h q => ⟨h, up _ _ q (ne b h)⟩⟩ _ _ r
  · have q : H b = _ := q
    rw [z, ho] at q
    cases q
  all_goals
    rcases q with q | ⟨z, q⟩
    · exact .inl (up _ _ q (ne b h))
    · exact .inr ⟨z, up _ _ q (ne b h)⟩
theorem lim_lt {k : Nat} (h : k < LIM) : k < sizeLine := by unfold LIM at h; rw [sizeLine_eq]; omega
theorem vs_append {x : Str} {p' ap cp : Pos} (hi : i ∈ O) (hN : X.N[i]? = some x) (hv : Vis X.env.scope x) (h : VE X E O e m)
    (hpe : ∀ {to : TE} {t : TA}, PE X (.Name x p') to → PA X [e] t → PE X (.Call (.Attribute (.Name x p') "append" ap) [e] [] cp) (tBM X.K "list" rAppend to t) := by
      intro to t h1 h2; exact pe_bm PySem.F.plainAttrs_list PySem.F.slot_list_append PySem.F.type_list_append mt_append h1 h2)
    (hs : swapsWith (.Call (.Attribute (.Name x p') "append" ap) [e] [] cp) none pos.line X.env = pure false := by rfl) (hst : starEach [e] X.env = (false, eval e X.env) :: starEach [] X.env := by rfl)
    (hd : (x == ("__debug__" : Str)) = false := by decide) (hcd : (x == ("__classdict__" : Str)) = false := by decide) : VS X E O O OL (.Expr (.Call (.Attribute (.Name x p') "append" ap) [e] [] cp) pos) (sApp i m) := by
  obtain ⟨mn, t, p, f⟩ := h
  refine ⟨_, ps_expr (hpe (pe_var hN hv hd hcd) (pa_cons p pa_nil hst)) hs, fun aS A0 H0 σ H s n xq de De S L k h => ?_⟩
  obtain ⟨ds, es, h⟩ := h
  obtain ⟨a, xs, z1, z2, z3, z4⟩ := own_lst S hi es
  refine ⟨_, z1, .inl ⟨rfl, _, SqL.of z3⟩, f aS A0 H0 σ H s n xq _ S L (mn _ _ _ _ _ (fun d n' q v H' kp st r => ?_) h)⟩
  have z3' := kp _ _ z3 z2
  have z4' := z4.kp kp S.st AV.st
  exact ⟨a, xs, v, rfl, rfl, z3', by rw [z4.length]; exact lim_lt q.1, k.nx _ _ _ _ ((S.step kp st).mutL hi z1 z3' (z4'.app (RepL.cons r RepL.nil))) q.2⟩
theorem vs_insert {x : Str} {e2 : Expr} {p' ap cp : Pos} (hi : i ∈ O) (hN : X.N[i]? = some x) (hv : Vis X.env.scope x) (h : VA Rep X E O [e, e2] ml)
    (hpe : ∀ {to : TE} {t : TA}, PE X (.Name x p') to → PA X [e, e2] t → ∃ r, PE X (.Call (.Attribute (.Name x p') "insert" ap) [e, e2] [] cp) (tBM X.K "list" r to t) ∧ ∀ v vs H Q, (∃ l xs i y, v = V.ref l ∧ vs = [V.int i, y] ∧ H l = some (HO.lst xs) ∧ xs.length < sizeLine ∧ 0 ≤ i ∧ i < 2 ^ 63 ∧ Q V.non (upd H l (HO.lst (List.take i.toNat xs ++ [y] ++ List.drop i.toNat xs)))) → r v vs H Q := by
      intro to t h1 h2; exact ⟨_, pe_bm PySem.F.plainAttrs_list PySem.F.slot_list_insert PySem.F.type_list_insert mt_insert h1 h2, fun _ _ _ _ h => h⟩)
    (hs : swapsWith (.Call (.Attribute (.Name x p') "insert" ap) [e, e2] [] cp) none pos.line X.env = pure false := by rfl)
    (hd : (x == ("__debug__" : Str)) = false := by decide) (hcd : (x == ("__classdict__" : Str)) = false := by decide) : VS X E O O OL (.Expr (.Call (.Attribute (.Name x p') "insert" ap) [e, e2] [] cp) pos) (sIns i ml) := by
  obtain ⟨mn, t, p, f⟩ := h
  obtain ⟨r, pe, hr⟩ := hpe (pe_var hN hv hd hcd) p
  refine ⟨_, ps_expr pe hs, fun aS A0 H0 σ H s n xq de De S L k h => ?_⟩
  obtain ⟨ds, es, h⟩ := h
  obtain ⟨a, xs, z1, z2, z3, z4⟩ := own_lst S hi es
  refine ⟨_, z1, .inl ⟨rfl, _, SqL.of z3⟩, f aS A0 H0 σ H s n xq _ S L (mn _ _ _ _ _ (fun d n' q v H' kp st r => ?_) h)⟩
  obtain ⟨j, d, ed, hl, hj, q⟩ := q
  subst ed
  obtain ⟨v1, v2, ev, r1, r2⟩ := rl_two r
  simp only [Rep] at r1
  subst ev r1
  have z3' := kp _ _ z3 z2
  have z4' := z4.kp kp S.st AV.st
  refine hr _ _ _ _ ⟨a, xs, j, v2, rfl, rfl, z3', by rw [z4.length]; exact lim_lt hl, by omega, by unfold LIM at hj; omega, ?_⟩
  rw [Int.toNat_natCast]
  exact k.nx _ _ _ _ ((S.step kp st).mutL hi z1 z3' (((z4'.take j).app (RepL.cons r2 RepL.nil)).app (z4'.drop j))) q
/-- f.append(xs.pop(e)), both owned -/
def sAppPop (j i : Nat) (m : EM D) : SM := fun xq de s n => ∃ fs ds, s[j]? = some (some (.lst fs)) ∧ s[i]? = some (some (.lst ds)) ∧ m xq s n fun d n' => ∃ (k : Nat) (x : D), d = .int k ∧ ds[k]? = some x ∧ ds.length ≤ LIM ∧ fs.length < LIM ∧ de.nx ((s.set i (some (.lst (ds.eraseIdx k)))).set j (some (.lst (fs ++ [x])))) n'
end
end DL
namespace DL
open PySem L2
open PySem.Spec
open PyProof.Rows
/-! enumerate of a tuple: the kit has the list alone -/
abbrev enumO (src : Addr) : Obj := { cls := .type "enumerate", data := .fields #[.none, .bool false, .ref src, rawInt 0, .none, .none] }
/-- enumerate.__new__ over whatever begins a walk -/
theorem new_enum {v : Value} {o : Obj} {C : Heap → Prop} (B : Begins v o C) :
    Meets (Builtin.«enumerate.__new__» ⟨[.type "enumerate", v], []⟩) (fun _ R s => C s.heap ∧ R (.ok (.ret (.ref (s.heap.push o).objs.size))) { s with heap := (s.heap.push o).push (enumO s.heap.objs.size) }) := by
  refine Meets.of_wp fun prog w A R s ⟨hC, hR⟩ => ?_
  cases s with
  | mk hp gs dd tk os =>
    have isub := sub_enumerate
    have start : ∀ {A' : Around} {E Q : Value → Shared → Prop}, Q (.ref hp.objs.size) ⟨hp.push o, gs, dd, tk, os⟩ → wpAny (model prog w) A' (pyIter v) Q E ⟨hp, gs, dd, tk, os⟩ := fun {A' E Q} q => B.iter prog w A' E ⟨hp, gs, dd, tk, os⟩ Q hC q
    wp_walk using start
    refine wpAny_stack_any fun _ => ?_
    refine wpAny_pure ?_
    split
    · next c _ _ _ _ _ =>
      generalize (c == Value.type "enumerate") = same
      cases same
      all_goals
        wp_walk using start
        exact ⟨_, rfl, hR⟩
    · wp_walk using start
      exact ⟨_, rfl, hR⟩
/-- the pair e over the tuple iterator t of the tuple a, i items told -/
structure EnT (e t a : Addr) (i : Nat) (h : Heap) : Prop where
  ne : e ≠ t
  src : h.IsTupleIter t a i
  enum : ∃ old, IsEnum h e t (i : Int) old
theorem EnT.moved {e t a : Addr} {i : Nat} {h h' : Heap} (z : EnT e t a i h) (k : ∀ b ∈ [e, t], ∀ o, h.get? b = some o → h'.get? b = some o) : EnT e t a i h' := by
  obtain ⟨old, q⟩ := z.enum
  exact ⟨z.ne, z.src.at (k t (by simp)), old, k e (by simp) _ q⟩
/-- enumerate(a tuple): iterator and pair are laid, all else stays -/
theorem made_enum {prog : Program} {w : World} {A : Around} {E Q : Value → Shared → Prop} {s : Shared} {a : Addr} {items : Array Value} (tp : s.heap.IsTuple a items)
    (fin : ∀ h', EnT (s.heap.objs.size + 1) s.heap.objs.size a 0 h' → (∀ b o, s.heap.get? b = some o → h'.get? b = some o) → Q (.ref (s.heap.objs.size + 1)) { s with heap := h' }) : wpAny (model prog w) A (call (.type "enumerate") [.ref a]) Q E s := by
  have B := begins_tuple a items
  refine callType_new F.called_enumerate (by decide) (F.typeCall_enumerate_1 _) (F.newCall_enumerate_1 _) (fun self => F.args_object_init_2 self _) F.entry_enumerate_new (new_enum B) ⟨tp, ?_⟩
  have size1 : ∀ o : Obj, (s.heap.push o).objs.size = s.heap.objs.size + 1 := fun o => Heap.size_push ..
  have top := fun o : Obj => Heap.get?_push_size (s.heap.push o) (o := enumO s.heap.objs.size) rfl
  show _ ∧ _
  rw [size1]
  have top' := top { cls := .type "tuple_iterator", data := .fields #[.ref a, .int 0 0] }
  rw [size1] at top'
  refine ⟨⟨_, top', rfl⟩, fin _ ⟨Nat.succ_ne_self _, ⟨_, Heap.get?_push_of_some _ (Heap.get?_push_size _ B.free), rfl, rfl⟩, .none, top'⟩ fun b o q => Heap.get?_push_of_some _ (Heap.get?_push_of_some _ q)⟩
/-- the tuple at a, each item beside its place in a new pair -/
def ItET (K : PySem.W.Frag) (a : Addr) : It where
  go i H := ∃ xs : List V, SqT K H a xs ∧ i < xs.length
  yld i H v H' := ∃ q x, H q = none ∧ v = .ref q ∧ H' = upd H q (.tup [.int (i : Nat), x]) ∧ ∀ xs, SqT K H a xs → xs[i]? = some x
  stop i H := ∃ xs : List V, SqT K H a xs ∧ xs.length = i
section
variable {P : Program} {w : World} {K : PySem.W.Frag} {elts : List Expr} {kk : Nat} {tpos : Pos} {a e t : Addr}
theorem turn_enumT (nae : a ≠ e) (nat : a ≠ t) : Turn P w K (.Tuple elts kk tpos) (ItET K a) [e, t] e (EnT e t a) where
  mem := List.mem_cons_self
  keep := fun _ _ _ z k => z.moved k
  self := fun _ _ _ _ _ z q => Exists.elim z.enum fun _ en => wpAny_pyIter_enum en q
  obj := fun i h z b hb => by
    obtain ⟨_, en⟩ := z.enum
    obtain ⟨ob, at_, _, dat⟩ := z.src
    have two : b = e ∨ b = t := by simpa using hb
    refine two.elim (fun y => ?_) fun y => ?_ <;> subst y
    · exact ⟨_, en, fun _ y => nomatch y⟩
    · exact ⟨ob, at_, fun _ y => by rw [dat] at y; cases y⟩
  done := fun X eP ew eK calm i pins s σ H E inv foot z ⟨xs, sq, len⟩ => by
    subst eP ew eK
    obtain ⟨its, vals, isT, _⟩ := inv.tuple sq
    obtain ⟨_, en⟩ := z.enum
    have sz : its.toArray.size = i := by rw [List.size_toArray, ← vals.length, len]
    have dr := Draws.tuple (prog := X.prog) (w := X.w) (A := X.A.in1) (show X.A.in1.handled = none from inv.ok.hd calm) t a nat its.toArray
    have ft := foot t (by simp)
    exact wpAny_pyNext_enum_endD dr en (by rw [sz]; exact ⟨z.src, isT⟩) fun h' same => ⟨rfl, inv.turned (t' := s.toks) same ft.1 ft.2.1 ft.2.2.2.1 ft.2.2.2.2.1 ft.2.2.2.2.2⟩
  item := fun X eP ew eK calm i pins s σ H E inv foot z ⟨xs, sq, lt⟩ => by
    subst eP ew eK
    obtain ⟨its, vals, isT, _⟩ := inv.tuple sq
    obtain ⟨old, en⟩ := z.enum
    obtain ⟨u, at_u, rel⟩ := vals.get (List.getElem?_eq_getElem lt)
    have elow : e < s.heap.objs.size := Heap.lt_size en
    have tlow : t < s.heap.objs.size := let ⟨_, y, _⟩ := z.src; Heap.lt_size y
    have dr := Draws.tuple (prog := X.prog) (w := X.w) (A := X.A.in1) (show X.A.in1.handled = none from inv.ok.hd calm) t a nat its.toArray
    refine wpAny_pyNext_enum_itemC dr en ⟨z.src, isT⟩ (by rw [List.size_toArray, ← vals.length]; exact lt) z.ne (by simp; exact ⟨z.ne, Ne.symm nae⟩) fun y h' tk drawn owned src' pair _ rest => ?_
    obtain rfl : u = y := Option.some.inj (at_u.symm.trans (by simpa using drawn))
    refine ⟨_, rfl, wpAny_letOwnedTupleGo_enum (s := { s with heap := h', toks := tk + 1 }) owned fun h'' en' but => ?_⟩
    have pair' := (but.2 _ (Nat.ne_of_gt elow)).trans pair
    have others : ∀ b ob, b ∉ [e, t] → s.heap.get? b = some ob → h''.get? b = some ob := fun b ob nb q => (but.2 b fun y => nb (y ▸ List.mem_cons_self)).trans (rest b ob (fun y => nb (y ▸ List.mem_cons_self)) (fun y => nb (by simp [y])) q)
    have laid : ObjOk X.prog X.w (upd H s.heap.objs.size (.tup [.int (i : Nat), xs[i]])) h'' s.heap.objs.size (.tup [.int (i : Nat), xs[i]]) := ⟨by show 2 ≤ sizeLine; decide, _, .cons ⟨tk, rfl⟩ (.cons rel .nil), _, pair', rfl, _, rfl⟩
    refine ⟨.ref s.heap.objs.size, _, inv.turnedNew (t' := tk + 1) others foot (Nat.le_refl _) laid, rfl, ⟨_, xs[i], inv.hok.fresh (Nat.le_refl _), rfl, rfl, fun zs sq' => ?_⟩, ⟨z.ne, src'.1.at fun o q => (but.2 t (Ne.symm z.ne)).trans q, u, ?_⟩, fun b hb => ?_⟩
    · rw [inv.tuple_inj sq' sq]
      exact List.getElem?_eq_getElem lt
    · rw [Int.natCast_succ]
      exact en'
    · have low : b < s.heap.objs.size := (List.mem_cons.mp hb).elim (fun y => y ▸ elow) fun y => List.mem_singleton.mp y ▸ tlow
      rw [upd_ne (Nat.ne_of_lt low)]
      exact (foot b hb).1
theorem walk_enumT {xs : List V} : Walk (ItET K a) xs.length (fun H => SqT K H a xs) (YPair (fun i => some (.int (i : Nat))) (fun i => xs[i]?)) where
  goes := fun _ _ lt sq => ⟨xs, sq, lt⟩
  stops := fun _ sq => ⟨xs, sq, rfl⟩
  yields := fun i _ _ _ _ sq ⟨q, x, new, ev, eH, tells⟩ => ⟨q, .int (i : Nat), x, ev, new, eH, rfl, tells xs sq⟩
end
/-- a list or a tuple, enumerated -/
def iEnumA (K : PySem.W.Frag) (ta : TA) : TI := fun σ H R => ta σ H fun vs H1 => ∃ a xs, vs = [.ref a] ∧ ((SqL K H1 a xs ∧ R (Ite K a) H1) ∨ (SqT K H1 a xs ∧ R (ItET K a) H1))
section
variable {X : Cx} {elts : List Expr} {kk : Nat} {tpos : Pos} {pins : List (Addr × Obj)} {σ : L2.St} {H : Hp} {s : Shared} {R : It → Hp → Prop} {a : Addr} {xs : List V}
/-- two new objects are nobody's -/
theorem new_foot (inv : Inv X pins σ H s) : ∀ b ∈ [s.heap.objs.size + 1, s.heap.objs.size], FpOk X pins H b := fun b hb => by
  have up : s.heap.objs.size ≤ b := (List.mem_cons.mp hb).elim (fun y => y ▸ Nat.le_succ _) fun y => Nat.le_of_eq (List.mem_singleton.mp y).symm
  exact inv.fpOk up (inv.hok.fresh up)
theorem enum_made (inv : Inv X pins σ H s) (q : (SqL X.K H a xs ∧ R (Ite X.K a) H) ∨ (SqT X.K H a xs ∧ R (ItET X.K a) H)) :
    wpAny (model X.prog X.w) X.A (call (.type "enumerate") [.ref a]) (fun v s1 => wpAny (model X.prog X.w) X.A (pyIter v) (PIE X pins σ (.Tuple elts kk tpos) R) X.xe s1) X.xe s := by
  cases q with
  | inl q =>
    obtain ⟨_, _, li, _⟩ := inv.list q.1
    exact call_enumerate_list li.isList fun h' en it _ same => wpAny_pyIter_enum en ⟨_, _, _, _, H, rfl, inv.kept (t' := s.toks) same, turn_enum a _ _, ⟨⟨.none, en⟩, it, Nat.succ_ne_self _⟩, new_foot inv, q.2⟩
  | inr q =>
    obtain ⟨_, _, tp, _⟩ := inv.tuple q.1
    have low : a < s.heap.objs.size := let ⟨_, y, _⟩ := tp; Heap.lt_size y
    exact made_enum tp fun h' z same => Exists.elim z.enum fun _ en => wpAny_pyIter_enum en ⟨_, _, _, _, H, rfl, inv.kept (t' := s.toks) same, turn_enumT (Nat.ne_of_lt (Nat.lt_succ_of_lt low)) (Nat.ne_of_lt low), z, new_foot inv, q.2⟩
theorem pi_enumA {e : Expr} {ta : TA} {p pos : Pos} (hg : Gl X "enumerate") (hm : X.mg "enumerate" = none) (ha : PA X [e] ta) (hs : starEach [e] X.env = [(false, eval e X.env)] := by rfl) :
    PI X (.Tuple elts kk tpos) (.Call (.Name "enumerate" p) [e] [] pos) (iEnumA X.K ta) where
  run pins s σ H R inv h := Call_ (ld_blt inv hg hm boot_enumerate (callWith_type1 (thn (ha.run pos pins s σ H _ inv h) fun us s1 ⟨vs, H1, inv1, rel, a, xs, ev, q⟩ => by
    subst ev
    obtain ⟨u, eu, ru⟩ := vals1 rel
    subst eu
    cases ru
    exact enum_made inv1 q) hs rfl))
end
end DL
namespace DL
open PySem PySem.Spec PyProof.Rows L2
variable [TabC]
/-! ### what is walked -/
def Far (aS : Addr) (A0 : AS) (Hb : Hp) (A : AS) : Prop := A aS ∧ ∀ b, A b → A0 b ∨ b = aS ∨ Hb b = none
def ItOk (K : PySem.W.Frag) (aS : Addr) (A0 : AS) (ds : List D) (J : It) (Hb : Hp) : Prop := ∃ (G : Hp → Prop) (Y : Nat → Hp → V → Hp → Prop), Walk J ds.length G Y ∧ (∀ H1, KpS aS Hb H1 → G H1) ∧
  ∀ (i : Nat) (H1 : Hp) (x : V) (H2 : Hp) (n : Nat) (A : AS), i < ds.length → KpS aS Hb H1 → StA K aS H1 n → Far aS A0 Hb A → Y i H1 x H2 → Gr H1 H2 ∧ ∃ d, ds[i]? = some d ∧ Rep K aS H2 A d x
def hideL (s : Ev) : List Nat → Ev
  | [] => s
  | v :: vs => (hideL s vs).set v none
def VI (X : Cx) (E : XK) (O OB hid : List Nat) (tg iter : Expr) (m : EM (List D)) : Prop := Mn m ∧ ∃ wi, PI X tg iter wi ∧ ∀ (aS : Addr) (A0 : A0T) (H0 : Hp) (σ : L2.St) (H : Hp) (s : Ev) (n : Nat) (xq : XQ) (R : It → Hp → Prop), SR X.K aS O A0 H0 σ H s n → LX X.K E aS A0 H0 xq →
  m xq s n (fun ds n' => ∀ J H' (A1 : A0T), KpS aS H H' → StA X.K aS H' n' → AV aS A1 OB σ = AV aS A0 O σ → SR X.K aS OB A1 H0 σ H' (hideL s hid) n' → ItOk X.K aS A1 ds J (bare OB σ H') → R J H') → wi σ H R
/-- .. in a statement -/
def VIs (X : Cx) (E : XK) (O : List Nat) (tg iter : Expr) (m : EM (List D)) : Prop := Mn m ∧ ∃ wi, PI X tg iter wi ∧ ∀ (aS : Addr) (A0 : A0T) (H0 : Hp) (σ : L2.St) (H : Hp) (s : Ev) (n : Nat) (xq : XQ) (R : It → Hp → Prop), SR X.K aS O A0 H0 σ H s n → LX X.K E aS A0 H0 xq →
  m xq s n (fun ds n' => ∀ J H', KpS aS H H' → StA X.K aS H' n' → ItOk X.K aS A0 ds J (bare O σ H') → R J H') → wi σ H R
theorem VIs.vi {X : Cx} {E : XK} {O : List Nat} {tg iter : Expr} {m : EM (List D)} (h : VIs X E O tg iter m) : VI X E O O [] tg iter m := by
  obtain ⟨mn, wi, p, f⟩ := h
  exact ⟨mn, wi, p, fun aS A0 H0 σ H s n xq R S L hm => f aS A0 H0 σ H s n xq R S L (mn _ _ _ _ _ (fun ds n' q J H' kp st it => q J H' A0 kp st rfl (S.step kp st) it) hm)⟩
section
variable {K : PySem.W.Frag} {aS a : Addr} {H H' H0 H1 Hb : Hp} {A : AS} {A0 : A0T} {O OB : List Nat} {σ : L2.St} {s : Ev} {n : Nat}
theorem KpS.all (k : ∀ b u, H b = some u → H' b = some u) : KpS aS H H' := fun b u e _ => .of (k b u e)
/-- what does not meet what slots own stands on the base -/
theorem SR.onBase (S : SR K aS O A0 H0 σ H s n) (h1 : KpS aS (bare O σ H) H1) (hF : Far aS A0 (bare O σ H) A) : Sub K H H1 (AV aS A0 O σ) A := by
  have nb : ∀ b, ¬ AV aS A0 O σ b → bare O σ H b = H b := fun b h => bare_not fun z => h (.inr (.inr z))
  have ne : ∀ b, ¬ AV aS A0 O σ b → b ≠ aS := fun b h z => h (.inr (.inl z))
  have nA : ∀ b u, ¬ AV aS A0 O σ b → H b = some u → ¬ A b := fun b u h q z => by
    rcases hF.2 b z with z | z | z
    · exact h (.inl z)
    · exact h (.inr (.inl z))
    · rw [nb b h, q] at z
      cases z
  have up : ∀ b u, ¬ AV aS A0 O σ b → H b = some u → Kp1 u (H1 b) := fun b u h q => h1 b u ((nb b h).trans q) (ne b h)
  refine ⟨fun b xs h q => ⟨nA _ _ h q, up _ _ h q⟩, fun b xs q => q.elim (fun q => .inl (h1 b (.tup xs) ?_ fun z => ?_)) .inr, fun b ys h q => ?_, fun b ys h q => ?_, fun b C dx ys h q => ⟨nA _ _ h q, up _ _ h q⟩, fun b u hu h q => ⟨nA _ _ h q, Kp1.xo hu (up _ _ h q)⟩⟩
  · rw [bare_not]
    · exact q
    · rintro ⟨j, hj, e⟩
      obtain ⟨d, b', e1, e2, e3, e4, e5, e6⟩ := S.ow j hj
      rw [e] at e2
      cases e2
      cases d with
      | lst ds => obtain ⟨xs, e, _⟩ := e6; rw [q] at e; cases e
      | dic ds => obtain ⟨xs, e, _⟩ := e6; rw [q] at e; cases e
      | dmx ds => obtain ⟨xs, e, _⟩ := e6; rw [q] at e; unfold MD.MixO at e; cases e
      | obj C ds => obtain ⟨dx, xs, e, _⟩ := e6; rw [q] at e; cases e
      | _ => exact e6.elim
  · obtain ⟨ys, e⟩ := S.st.lst
    rw [z, e] at q
    cases q
  all_goals
    rcases q with q | ⟨z, q⟩
    · exact ⟨nA _ _ h q, .inl (up _ _ h q)⟩
    · exact ⟨nA _ _ h q, .inr ⟨z, up _ _ h q⟩⟩
theorem SR.far (S : SR K aS O A0 H0 σ H s n) : Far aS A0 (bare O σ H) (fun b => A0 b ∨ b = aS) := ⟨.inr rfl, fun b z => z.elim .inl fun z => .inr (.inl z)⟩
theorem SR.onT (S : SR K aS O A0 H0 σ H s n) (h1 : KpS aS (bare O σ H) H1) {xs : List V} (h : TpA K H a xs) : TpA K H1 a xs := (S.onBase h1 S.far).t _ _ h
theorem it_yat {K : PySem.W.Frag} {aS : Addr} {A0 : AS} {ds : List D} {xs : List V} {Hb : Hp} {J : It} {G : Hp → Prop} (w : Walk J xs.length G (YAt xs)) (hl : xs.length = ds.length) (hG : ∀ H1, KpS aS Hb H1 → G H1)
    (hr : ∀ H1 A, KpS aS Hb H1 → Far aS A0 Hb A → RepL K aS H1 A ds xs) : ItOk K aS A0 ds J Hb := by
  refine ⟨G, YAt xs, hl ▸ w, hG, fun i H1 x H2 n A hi k st hF y => ?_⟩
  obtain ⟨e, ex⟩ := y
  subst e
  exact ⟨Gr.refl _, RepL.get' (hr _ A k hF) ex⟩
theorem SR.itL (S : SR K aS O A0 H0 σ H s n) {ds : List D} {xs : List V} (ha : ¬ AV aS A0 O σ a) (h : H a = some (.lst xs)) (r : RepL K aS H (AV aS A0 O σ) ds xs) : ItOk K aS A0 ds (Itl K a) (bare O σ H) :=
  it_yat walk_list r.length (fun H1 k => SqL.of (k a _ ((bare_not fun z => ha (.inr (.inr z))).trans h) fun z => ha (.inr (.inl z)))) fun H1 A k hF => RepL.mono (S.onBase k hF) _ _ r
theorem SR.itT (S : SR K aS O A0 H0 σ H s n) {ds : List D} {xs : List V} (h : TpA K H a xs) (r : RepL K aS H (AV aS A0 O σ) ds xs) : ItOk K aS A0 ds (Itt K a) (bare O σ H) :=
  it_yat walk_tup r.length (fun H1 k => (S.onT k h).sq) fun H1 A k hF => RepL.mono (S.onBase k hF) _ _ r
end
def signs (x : Str) : List D := x.cps.toList.map fun c => .str ⟨#[c]⟩
def dIter : D → Option (List D)
  | .lst xs => some xs
  | .tup xs => some xs
  | .str x => some (signs x)
  | _ => none
def eIter (m : EM D) : EM (List D) := fun xq s n Q => m xq s n fun d n' => ∃ ds, dIter d = some ds ∧ Q ds n'
section
variable {X : Cx} {E : XK} {O OB OL : List Nat} {e tg : Expr} {m : EM D} {pos : Pos}
def IterV (K : PySem.W.Frag) (x : V) (H : Hp) (R : It → Hp → Prop) : Prop := (∃ a xs, x = .ref a ∧ H a = some (.lst xs) ∧ R (Itl K a) H) ∨ (∃ a xs, x = .ref a ∧ TpA K H a xs ∧ R (Itt K a) H) ∨ ∃ z, x = .str z ∧ R (Its z) H
theorem pi_dyn {te : TE} (he : PE X e te) : PI X tg e (fun σ H R => te σ H fun x H1 => IterV X.K x H1 R) := by
  refine ⟨fun pins s σ H R I h => thn (he.run pins s σ H _ I h) fun v s1 ⟨x, H1, I1, r1, q1⟩ => ?_⟩
  rcases q1 with ⟨a, xs, ex, hq, q⟩ | ⟨a, xs, ex, hq, q⟩ | ⟨z, ex, q⟩
  · subst ex
    cases r1
    obtain ⟨its, rv, p, hz⟩ := I1.list (SqL.of hq)
    exact wpAny_pyIter_list p.isList (pi_one (tk := s1.toks) I1 _ (turn_list a _) ⟨_, Heap.get?_push_size _ rfl, rfl, rfl⟩ q)
  · subst ex
    cases r1
    obtain ⟨its, rv, p, hz⟩ := I1.tuple hq.sq
    exact wpAny_pyIter_tuple (show s1.heap.IsTuple a its.toArray from p) (pi_one (tk := s1.toks) I1 _ (turn_tuple a _) ⟨_, Heap.get?_push_size _ rfl, rfl, rfl⟩ q)
  · subst ex
    obtain ⟨t, rfl⟩ := r1
    cases ha : z.cps.all (· < 128)
    · exact wpAny_pyIter_wide ha (pi_one (tk := s1.toks) I1 _ (turn_str _ z t _ (.inr rfl)) ⟨_, Heap.get?_push_size _ rfl, rfl, rfl⟩ q)
    · exact wpAny_pyIter_ascii ha (pi_one (tk := s1.toks) I1 _ (turn_str _ z t _ (.inl rfl)) ⟨_, Heap.get?_push_size _ rfl, rfl, rfl⟩ q)
theorem it_str {K : PySem.W.Frag} {aS : Addr} {A0 : AS} {z : Str} {Hb : Hp} : ItOk K aS A0 (signs z) (Its z) Hb := by
  have hl : (signs z).length = z.cps.size := by simp [signs]
  refine ⟨fun _ => True, _, hl ▸ walk_str, fun _ _ => trivial, fun i H1 x H2 n A hi k st hF y => ?_⟩
  obtain ⟨e, c, hc, ex⟩ := y
  subst e ex
  refine ⟨Gr.refl _, .str ⟨#[c]⟩, ?_, rep_str⟩
  unfold signs
  rw [List.getElem?_map, Array.getElem?_toList, hc]
  rfl
theorem mn_iter (h : Mn m) : Mn (eIter m) := fun xq s n Q Q' hq w => h _ _ _ _ _ (fun d n' ⟨ds, e, q⟩ => ⟨ds, e, hq _ _ q⟩) w
theorem vi_seq (h : VE X E O e m) : VIs X E O tg e (eIter m) := by
  obtain ⟨mn, t, p, f⟩ := h
  refine ⟨mn_iter mn, _, pi_dyn p, fun aS A0 H0 σ H s n xq R S L hm => f aS A0 H0 σ H s n xq _ S L (mn _ _ _ _ _ (fun d n' q v H' kp st r => ?_) hm)⟩
  obtain ⟨ds, e, q⟩ := q
  have S' := S.step kp st
  have q := fun J => q J H' kp st
  unfold dIter at e
  split at e
  · cases e
    rw [Rep] at r
    obtain ⟨a, xs, ev, ha, hq, rl⟩ := r
    exact .inl ⟨a, xs, ev, hq, q _ (S'.itL ha hq rl)⟩
  · cases e
    rw [Rep] at r
    obtain ⟨a, xs, ev, hq, rl⟩ := r
    exact .inr (.inl ⟨a, xs, ev, hq, q _ (S'.itT hq rl)⟩)
  · cases e
    rw [Rep] at r
    exact .inr (.inr ⟨_, r, q _ it_str⟩)
  · cases e
/-- over a list that a slot owns: it is hidden meanwhile -/
theorem vi_own {x : Str} {i : Nat} (hi : i ∈ O) (hN : X.N[i]? = some x) (hv : Vis X.env.scope x) (hd : (x == ("__debug__" : Str)) = false := by decide) (hcd : (x == ("__classdict__" : Str)) = false := by decide) :
    VI X E O (O.filter (· != i)) [i] tg (.Name x pos) (fun xq s n Q => ∃ ds, s[i]? = some (some (.lst ds)) ∧ Q ds n) := by
  refine ⟨fun xq s n Q Q' hq ⟨ds, e, q⟩ => ⟨ds, e, hq _ _ q⟩, _, pi_dyn (pe_var hN hv hd hcd), fun aS A0 H0 σ H s n xq R S L hm => ?_⟩
  obtain ⟨ds, e, q⟩ := hm
  obtain ⟨d, a, e1, e2, e3, e4, e5, e6⟩ := S.ow i hi
  rw [e] at e1
  cases e1
  obtain ⟨xs, ha, rl⟩ := e6
  have mem : ∀ j, j ∈ O.filter (· != i) ↔ j ∈ O ∧ j ≠ i := fun j => by simp [List.mem_filter]
  have eA : AV aS (⟨fun b => A0 b ∨ b = a, A0.z⟩ : A0T) (O.filter (· != i)) σ = AV aS A0 O σ := by
    funext b
    refine propext ⟨fun z => ?_, fun z => ?_⟩
    · rcases z with (z | z) | z | ⟨j, hj, ej⟩
      · exact .inl z
      · exact .inr (.inr ⟨i, hi, z ▸ e2⟩)
      · exact .inr (.inl z)
      · exact .inr (.inr ⟨j, ((mem j).mp hj).1, ej⟩)
    · rcases z with z | z | ⟨j, hj, ej⟩
      · exact .inl (.inl z)
      · exact .inr (.inl z)
      · by_cases hji : j = i
        · subst hji
          rw [e2] at ej
          cases ej
          exact .inl (.inr rfl)
        · exact .inr (.inr ⟨j, (mem j).mpr ⟨hj, hji⟩, ej⟩)
  have nin : i ∉ O.filter (· != i) := fun z => ((mem i).mp z).2 rfl
  have S1 : SR X.K aS (O.filter (· != i)) ⟨fun b => A0 b ∨ b = a, A0.z⟩ H0 σ H (s.set i none) n := by
    refine ⟨by rw [List.length_set]; exact S.len, fun j d' ej hj => ?_, fun j hj => ?_, fun j l b hj hl => S.ds j l b ((mem j).mp hj).1 ((mem l).mp hl).1, S.fr, S.st, fun b hb => ?_, fun z => S.pn ((mem 0).mp z).1⟩
    · rw [eA]
      by_cases hji : j = i
      · subst hji
        have hl : j < s.length := (List.getElem?_eq_some_iff.mp e).1
        rw [List.getElem?_set_self hl] at ej
        cases ej
      · rw [set_other hji] at ej
        exact S.sh j d' ej fun z => hj ((mem j).mpr ⟨z, hji⟩)
    · rw [eA]
      have hj' := (mem j).mp hj
      rw [set_other hj'.2]
      obtain ⟨d', b, q1, q2, q3, q4, q5, q6⟩ := S.ow j hj'.1
      exact ⟨d', b, q1, q2, q3, fun z => z.elim q4 fun z => hj'.2 (S.ds j i a hj'.1 hi (z ▸ q2) e2), q5, q6⟩
    · rcases hb with hb | hb
      · exact S.av b hb
      · exact ⟨_, hb ▸ ha⟩
  refine ⟨.ref a, e2, .inl ⟨a, xs, rfl, ha, q _ H ⟨fun b => A0 b ∨ b = a, A0.z⟩ KpS.refl S.st eA S1 ?_⟩⟩
  have hb : bare (O.filter (· != i)) σ H a = some (.lst xs) := by
    rw [bare_not]
    · exact ha
    · rintro ⟨j, hj, ej⟩
      exact ((mem j).mp hj).2 (S.ds j i a ((mem j).mp hj).1 hi ej e2)
  refine it_yat walk_list rl.length (fun H1 k => SqL.of (k a _ hb e5)) fun H1 A k hF => RepL.mono (S1.onBase k hF) _ _ ?_
  rw [eA]
  exact rl
/-! ranges -/
def eRange1 (m : EM D) : EM (List D) := fun xq s n Q => m xq s n fun d n' => ∃ j : Int, d = .int j ∧ j ≤ LIM ∧ -(2 ^ 62) ≤ j ∧ Q ((List.range j.toNat).map fun i => .int (i : Nat)) n'
theorem it_range {K : PySem.W.Frag} {aS : Addr} {A0 : AS} {lo : Int} {k : Nat} {Hb : Hp} {f : Nat → D} (hf : ∀ i, f i = .int (lo + (i : Nat))) : ItOk K aS A0 ((List.range k).map f) (Itr lo k) Hb := by
  have hl : ((List.range k).map f).length = k := by simp
  refine ⟨fun _ => True, _, (by rw [hl]; exact walk_range (lo := lo) (n := k)), fun _ _ => trivial, fun i H1 x H2 n A hi kp st hF y => ?_⟩
  obtain ⟨e, ex⟩ := y
  subst e ex
  refine ⟨Gr.refl _, .int (lo + (i : Nat)), ?_, rep_int⟩
  rw [List.getElem?_map, List.getElem?_range (by simpa using hi)]
  exact congrArg some (hf i)
theorem vi_range1 {a : Expr} {p : Pos} (hg : Gl X "range") (hm : X.mg "range" = none) (h : VB X E O a m) (hs : starEach [a] X.env = [(false, eval a X.env)] := by rfl) (hs' : starEach [a] X.env = (false, eval a X.env) :: starEach [] X.env := by rfl) : VIs X E O tg (.Call (.Name "range" p) [a] [] pos) (eRange1 m) := by
  obtain ⟨mn, t, pe, f⟩ := h
  refine ⟨fun xq s n Q Q' hq w => mn _ _ _ _ _ (fun d n' ⟨j, e1, e2, e3, q⟩ => ⟨j, e1, e2, e3, hq _ _ q⟩) w, _, pi_range1 hg hm (pa_cons pe pa_nil hs') hs, fun aS A0 H0 σ H s n xq R S L hm => f aS A0 H0 σ H s n xq _ S L (mn _ _ _ _ _ (fun d n' q v H' kp st r => ?_) hm)⟩
  obtain ⟨j, e1, e2, e3, q⟩ := q
  subst e1
  refine ⟨j, by rw [repB_int r], e3, by unfold LIM at e2; omega, q _ H' kp st (it_range fun i => by rw [Int.zero_add])⟩
/-! enumerate, zip -/
def pairsD : Nat → List D → List D
  | _, [] => []
  | k, d :: ds => .tup [.int (k : Nat), d] :: pairsD (k + 1) ds
theorem pairsD_length : ∀ (k : Nat) (ds : List D), (pairsD k ds).length = ds.length
  | _, [] => rfl
  | k, d :: ds => by rw [pairsD, List.length_cons, List.length_cons, pairsD_length (k + 1) ds]
theorem pairsD_get : ∀ (k i : Nat) (ds : List D) (d : D), ds[i]? = some d → (pairsD k ds)[i]? = some (.tup [.int ((k + i : Nat) : Int), d])
  | _, _, [], _, h => by simp at h
  | k, 0, d :: ds, d', h => by
    simp at h
    subst h
    rfl
  | k, i + 1, d :: ds, d', h => by
    rw [pairsD, List.getElem?_cons_succ, pairsD_get (k + 1) i ds d' (by simpa using h)]
    have e : k + 1 + i = k + (i + 1) := by omega
    rw [e]
theorem it_ypair {K : PySem.W.Frag} {aS : Addr} {A0 : AS} {ds : List D} {Hb : Hp} {J : It} {k : Nat} {G : Hp → Prop} {f g : Nat → Option V} (w : Walk J k G (YPair f g)) (hl : k = ds.length) (hG : ∀ H1, KpS aS Hb H1 → G H1)
    (hr : ∀ i H1 A x y, i < ds.length → KpS aS Hb H1 → Far aS A0 Hb A → f i = some x → g i = some y → ∃ d1 d2, ds[i]? = some (.tup [d1, d2]) ∧ Rep K aS H1 A d1 x ∧ Rep K aS H1 A d2 y) : ItOk K aS A0 ds J Hb := by
  subst hl
  refine ⟨G, _, w, hG, fun i H1 v H2 n A hi kp st hF y => ?_⟩
  obtain ⟨T, x, y, ev, hT, e2, h1, h2⟩ := y
  subst ev e2
  obtain ⟨d1, d2, e, r1, r2⟩ := hr i H1 A x y hi kp hF h1 h2
  refine ⟨Gr.upd hT, _, e, rep_tup (.inl upd_same) ?_⟩
  exact RepL.kp (KpS.upd hT) st hF.1 (RepL.cons r1 (RepL.cons r2 RepL.nil))
def dSeq : D → Option (List D)
  | .lst xs => some xs
  | .tup xs => some xs
  | _ => none
def eEnum (m : EM D) : EM (List D) := fun xq s n Q => m xq s n fun d n' => ∃ ds, dSeq d = some ds ∧ Q (pairsD 0 ds) n'
theorem vi_enum {a : Expr} {p tpos : Pos} {elts : List Expr} {kk : Nat} (hg : Gl X "enumerate") (hm : X.mg "enumerate" = none) (h : VE X E O a m) (hs : starEach [a] X.env = [(false, eval a X.env)] := by rfl) (hs' : starEach [a] X.env = (false, eval a X.env) :: starEach [] X.env := by rfl) :
    VIs X E O (.Tuple elts kk tpos) (.Call (.Name "enumerate" p) [a] [] pos) (eEnum m) := by
  obtain ⟨mn, t, pe, f⟩ := h
  refine ⟨fun xq s n Q Q' hq w => mn _ _ _ _ _ (fun d n' ⟨j, e1, q⟩ => ⟨j, e1, hq _ _ q⟩) w, _, pi_enumA hg hm (pa_cons pe pa_nil hs') hs, fun aS A0 H0 σ H s n xq R S L hm => f aS A0 H0 σ H s n xq _ S L (mn _ _ _ _ _ (fun d n' q v H' kp st r => ?_) hm)⟩
  obtain ⟨ds, e, q⟩ := q
  have S' := S.step kp st
  have q := fun J => q J H' kp st
  have fin : ∀ {xs : List V}, RepL X.K aS H' (AV aS A0 O σ) ds xs → ∀ i H1 A x y, i < (pairsD 0 ds).length → KpS aS (bare O σ H') H1 → Far aS A0 (bare O σ H') A → (some (V.int (i : Nat)) : Option V) = some x → xs[i]? = some y → ∃ d1 d2, (pairsD 0 ds)[i]? = some (.tup [d1, d2]) ∧ Rep X.K aS H1 A d1 x ∧ Rep X.K aS H1 A d2 y := by
    intro xs rl i H1 A x y hi k1 st1 hx hy
    cases hx
    obtain ⟨d2, e2, r2⟩ := RepL.get' (RepL.mono (S'.onBase k1 st1) _ _ rl) hy
    refine ⟨.int (i : Nat), d2, ?_, rep_int, r2⟩
    rw [pairsD_get 0 i ds d2 e2, Nat.zero_add]
  unfold dSeq at e
  split at e
  · cases e
    rw [Rep] at r
    obtain ⟨b, xs, ev, ha, hq, rl⟩ := r
    refine ⟨b, xs, by rw [ev], .inl ⟨SqL.of hq, q _ (it_ypair walk_enum (by rw [pairsD_length, rl.length]) (fun H1 k => SqL.of (k b _ ((bare_not fun z => ha (.inr (.inr z))).trans hq) fun z => ha (.inr (.inl z)))) (fin rl))⟩⟩
  · cases e
    rw [Rep] at r
    obtain ⟨b, xs, ev, hq, rl⟩ := r
    refine ⟨b, xs, by rw [ev], .inr ⟨hq.sq, q _ (it_ypair walk_enumT (by rw [pairsD_length, rl.length]) (fun H1 k => (S'.onT k hq).sq) (fin rl))⟩⟩
  · cases e
end
end DL
namespace DL
open PySem PySem.Spec PyProof.Rows L2
variable [TabC]
/-! ### targets -/
abbrev DG := D → Ev → (Ev → Prop) → Prop
abbrev DGs := List D → Ev → (Ev → Prop) → Prop
/-- a target stores into the slots vs alone -/
def VG (X : Cx) (O vs : List Nat) (tg : Expr) (g : DG) : Prop := (∀ d s Q Q', (∀ s', Q s' → Q' s') → g d s Q → g d s Q') ∧ ∃ gt, PG X tg gt ∧ ∀ (aS : Addr) (A0 : A0T) (H0 : Hp) (σ : L2.St) (H : Hp) (s : Ev) (n : Nat) (d : D) (v : V) (Q : Ev → Prop) (QH : L2.St → Hp → Prop), SR X.K aS O A0 H0 σ H s n → Rep X.K aS H (AV aS A0 O σ) d v → g d s Q →
  (∀ σ' s', SR X.K aS O A0 H0 σ' H s' n → σ'.length = σ.length → (∀ j, j ∉ vs → σ'[j]? = σ[j]?) → AV aS A0 O σ' = AV aS A0 O σ → Q s' → QH σ' H) → gt v σ H QH
def VGs (X : Cx) (O vs : List Nat) (tg : List Expr) (g : DGs) : Prop := (∀ d s Q Q', (∀ s', Q s' → Q' s') → g d s Q → g d s Q') ∧ ∃ gt, PGs X tg gt ∧ ∀ (aS : Addr) (A0 : A0T) (H0 : Hp) (σ : L2.St) (H : Hp) (s : Ev) (n : Nat) (d : List D) (v : List V) (Q : Ev → Prop) (QH : L2.St → Hp → Prop), SR X.K aS O A0 H0 σ H s n → RepL X.K aS H (AV aS A0 O σ) d v → g d s Q →
  (∀ σ' s', SR X.K aS O A0 H0 σ' H s' n → σ'.length = σ.length → (∀ j, j ∉ vs → σ'[j]? = σ[j]?) → AV aS A0 O σ' = AV aS A0 O σ → Q s' → QH σ' H) → gt v σ H QH
def gNm (i : Nat) : DG := fun d s Q => Q (s.set i (some d))
def gTp (g : DGs) : DG := fun d s Q => ∃ ds, d = .tup ds ∧ g ds s Q
def gsNil : DGs := fun ds s Q => ds = [] ∧ Q s
def gsCons (g : DG) (r : DGs) : DGs := fun ds s Q => ∃ d dr, ds = d :: dr ∧ g d s fun s' => r dr s' Q
section
variable {X : Cx} {E : XK} {O O' OB OL vs ws hid : List Nat} {e tg : Expr} {es : List Expr} {m : EM D} {mi : EM (List D)} {mt : EM Bool} {mb : SM} {g : DG} {gs : DGs} {pos : Pos} {i : Nat}
theorem vg_name {x : Str} (hi : i ∉ O) (hnd : X.N.Nodup) (hN : X.N[i]? = some x) (hx : Loc X.env.scope x) (hf : X.fn x = true ∨ X.env.scope.names.lookup x = some .local := by first | exact .inl rfl | exact .inr rfl | assumption) : VG X O [i] (.Name x pos) (gNm i) := by
  refine ⟨fun _ _ _ _ hq h => hq _ h, _, pg_name hnd hN hx hf, fun aS A0 H0 σ H s n d v Q QH S r h k => ?_⟩
  exact k _ _ (S.set hi r) (by rw [List.length_set]) (fun j hj => set_other fun z => hj (by simp [z])) (AV.set hi) h
theorem vgs_nil : VGs X O [] [] gsNil := ⟨fun _ _ _ _ hq h => ⟨h.1, hq _ h.2⟩, _, pgs_nil, fun aS A0 H0 σ H s n d v Q QH S r h k => by
  obtain ⟨e, h⟩ := h
  subst e
  rw [RepL] at r
  exact ⟨r, k σ s S rfl (fun _ _ => rfl) rfl h⟩⟩
theorem vgs_cons (h1 : VG X O vs e g) (h2 : VGs X O ws es gs) (hs : (assignEach (e :: es) X.env).map (·.2) = assign e X.env :: (assignEach es X.env).map (·.2) := by rfl) : VGs X O (vs ++ ws) (e :: es) (gsCons g gs) := by
  obtain ⟨n1, g1, p1, f1⟩ := h1
  obtain ⟨n2, g2, p2, f2⟩ := h2
  refine ⟨fun _ _ _ _ hq ⟨d, dr, e, h⟩ => ⟨d, dr, e, n1 _ _ _ _ (fun _ h => n2 _ _ _ _ hq h) h⟩, _, pgs_cons p1 p2 hs, fun aS A0 H0 σ H s n d v Q QH S r h k => ?_⟩
  obtain ⟨d1, dr, ed, h⟩ := h
  subst ed
  rw [RepL] at r
  obtain ⟨v1, vr, ev, r1, r2⟩ := r
  refine ⟨v1, vr, ev, f1 aS A0 H0 σ H s n d1 v1 _ _ S r1 h fun σ1 s1 S1 l1 o1 a1 q1 => ?_⟩
  refine f2 aS A0 H0 σ1 H s1 n dr vr Q QH S1 (by rw [a1]; exact r2) q1 fun σ2 s2 S2 l2 o2 a2 q2 => ?_
  refine k σ2 s2 S2 (l2.trans l1) (fun j hj => ?_) (a2.trans a1) q2
  rw [o2 j fun z => hj (List.mem_append_right _ z), o1 j fun z => hj (List.mem_append_left _ z)]
theorem vg_tup {k : Nat} {n : Nat} (hc : X.calm = true) (h : VGs X O vs es gs) (hl : ∀ ds s Q, gs ds s Q → ds.length = n) (hn : (assignEach es X.env).length = n := by rfl) (hst : (assignEach es X.env).findIdx? (·.1) = none := by rfl) : VG X O vs (.Tuple es k pos) (gTp gs) := by
  obtain ⟨n1, g1, p1, f1⟩ := h
  refine ⟨fun _ _ _ _ hq ⟨ds, e, h⟩ => ⟨ds, e, n1 _ _ _ _ hq h⟩, _, pg_tup hc p1 hn hst, fun aS A0 H0 σ H s n d v Q QH S r h k => ?_⟩
  obtain ⟨ds, ed, h⟩ := h
  subst ed
  rw [Rep] at r
  obtain ⟨a, xs, ev, hq, rl⟩ := r
  exact ⟨a, xs, ev, hq.sq, by rw [rl.length]; exact hl _ _ _ h, f1 aS A0 H0 σ H s n ds xs Q QH S rl h k⟩
/-! ### for -/
def sForL (g : DG) (mb : SM) (xq : XQ) (de : DE) : List D → Ev → Nat → Prop
  | [], s, n => de.nx s n
  | d :: ds, s, n => g d s fun s1 => mb xq { de with nx := fun s2 n2 => sForL g mb xq de ds s2 n2, ct := fun s2 n2 => sForL g mb xq de ds s2 n2, bk := de.nx } s1 n
def sFor (mi : EM (List D)) (g : DG) (mb : SM) : SM := fun xq de s n => mi xq s n fun ds n1 => sForL g mb xq de ds s n1
theorem LX.base {K : PySem.W.Frag} {aS : Addr} {A0 : AS} {H0 Hb : Hp} {xq : XQ} (L : LX K E aS A0 H0 xq) (h : KpS aS H0 Hb) : LX K E aS A0 Hb xq := fun C fs n d H' k st r q => by
  refine L C fs n d H' (h.trans k) st ?_ q
  cases d with
  | none => exact r
  | some a =>
    obtain ⟨ys, e1, e2, e3⟩ := r
    refine ⟨ys, Option.eq_none_iff_forall_ne_some.mpr fun u z => ?_, e2, e3⟩
    obtain ⟨xs, es⟩ := st.lst
    have na : a ≠ aS := fun z => by rw [z, es] at e2; cases e2
    exact KpS.gone h e1 z na
theorem LK.base {K : PySem.W.Frag} {aS : Addr} {A0 : A0T} {H0 Hb : Hp} {de : DE} {De : Ends} (k : LK K aS O OL A0 H0 de De) (h : KpS aS H0 Hb) : LK K aS O OL A0 Hb de De :=
  ⟨fun σ H s n S q => k.nx σ H s n (S.back h) q, fun v H d n kp st r q => k.rt v H d n (h.trans kp) st r q, fun σ H s n S q => k.bk σ H s n (S.back h) q, fun σ H s n S q => k.ct σ H s n (S.back h) q⟩
theorem drop_get {α : Type} {l : List α} {i : Nat} {x : α} (h : l[i]? = some x) : l.drop i = x :: l.drop (i + 1) := by
  obtain ⟨h1, h2⟩ := List.getElem?_eq_some_iff.mp h
  exact h2 ▸ List.drop_eq_getElem_cons h1
theorem vs_for {iter : Expr} {body : List Stmt} (hp : PassesOwn (model X.prog X.w) X.A X.env X.xe) (hc : X.calm = true) (hi : VIs X E O tg iter mi) (hg : VG X O vs tg g) (hb : VSs X E O O O body mb)
    (hs : ∀ x, foldedSetIterable iter X.env x = pure x := by intro _; rfl) : VS X E O O OL (.For tg iter body [] pos) (sFor mi g mb) := by
  obtain ⟨mn, wi, pi, fi⟩ := hi
  obtain ⟨_, gt, pg, fg⟩ := hg
  obtain ⟨tb, pb, fb⟩ := hb
  refine ⟨_, ps_for hp hc pi pg pb hs, fun aS A0 H0 σ H s n xq de De S L k h => ?_⟩
  refine fi aS A0 H0 σ H s n xq _ S L (mn _ _ _ _ _ (fun ds n1 q J H1 kp st it => ?_) h)
  have S1 := S.step kp st
  have le := S1.le
  have hF : ∀ {σ' H' s' n'}, SR X.K aS O A0 (bare O σ H1) σ' H' s' n' → Far aS A0 (bare O σ H1) (AV aS A0 O σ') := fun {σ' H' s' n'} S' => ⟨AV.st, fun b z => by
    rcases z with z | z | ⟨j, hj, e⟩
    · exact .inl z
    · exact .inr (.inl z)
    · obtain ⟨d, b', e1, e2, e3, _⟩ := S'.ow j hj
      rw [e] at e2
      cases e2
      exact .inr (.inr e3)⟩
  obtain ⟨G, Y, w, hG, hY⟩ := it
  refine for_it w (fun i σ' H' => ∃ s' n', SR X.K aS O A0 (bare O σ H1) σ' H' s' n' ∧ sForL g mb xq de (ds.drop i) s' n') ⟨s, n1, S1.base, q⟩ (fun i σ' H' _ z => ?_) (fun i x σ' H' H2 hi z y => ?_) (fun σ' H' z => ?_)
  · obtain ⟨s', n', S', _⟩ := z
    exact hG H' S'.fr
  · obtain ⟨s', n', S', q'⟩ := z
    obtain ⟨k2, d, ed, rd⟩ := hY i H' x H2 n' _ hi S'.fr S'.st (hF S') y
    rw [drop_get ed] at q'
    have S2 := S'.step (KpS.all k2.1) (S'.st.kp k2)
    refine fg aS A0 _ σ' H2 s' n' d x _ _ S2 rd q' fun σ3 s3 S3 _ _ a3 q3 => ?_
    exact fb aS A0 _ σ3 H2 s3 n' xq { de with nx := fun s2 n2 => sForL g mb xq de (ds.drop (i + 1)) s2 n2, ct := fun s2 n2 => sForL g mb xq de (ds.drop (i + 1)) s2 n2, bk := de.nx } _ S3 (L.base le) ⟨fun σ4 H4 s4 n4 S4 q4 => ⟨s4, n4, S4, q4⟩, (k.base le).rt, fun σ4 H4 s4 n4 S4 q4 => k.nx σ4 H4 s4 n4 (S4.back le) q4, fun σ4 H4 s4 n4 S4 q4 => ⟨s4, n4, S4, q4⟩⟩ q3
  · obtain ⟨s', n', S', q'⟩ := z
    rw [List.drop_length] at q'
    exact k.nx σ' H' s' n' (S'.back le) q'
/-! ### while -/
def sWhileN (mt : EM Bool) (mb : SM) (xq : XQ) (de : DE) : Nat → Ev → Nat → Prop
  | 0, _, _ => False
  | k + 1, s, n => mt xq s n fun c n1 => if c = true then mb xq { de with nx := fun s2 n2 => sWhileN mt mb xq de k s2 n2, ct := fun s2 n2 => sWhileN mt mb xq de k s2 n2, bk := de.nx } s n1 else de.nx s n1
def sWhile (mt : EM Bool) (mb : SM) : SM := fun xq de s n => ∃ k, sWhileN mt mb xq de k s n
theorem vs_while {c : Expr} {body : List Stmt} (hp : PassesOwn (model X.prog X.w) X.A X.env X.xe) (hc : VT X E O c mt) (hb : VSs X E O O O body mb) : VS X E O O OL (.While c body [] pos) (sWhile mt mb) := by
  obtain ⟨mn, tc, pc, fc⟩ := hc
  obtain ⟨tb, pb, fb⟩ := hb
  refine ⟨_, ps_while hp pc pb, fun aS A0 H0 σ H s n xq de De S L k h => ?_⟩
  obtain ⟨j, h⟩ := h
  refine ⟨fun j σ' H' => ∃ s' n', SR X.K aS O A0 H0 σ' H' s' n' ∧ sWhileN mt mb xq de j s' n', ⟨j, s, n, S, h⟩, fun j σ' H' w => ?_⟩
  obtain ⟨s', n', S', w⟩ := w
  cases j with
  | zero => exact w.elim
  | succ j =>
    refine fc aS A0 H0 σ' H' s' n' xq _ S' L (mn _ _ _ _ _ (fun b n1 q H1 k1 st1 => ?_) w)
    cases b with
    | true =>
      rw [if_pos rfl]
      refine ⟨fun σ2 H2 => ∃ s2 n2, SR X.K aS O A0 H0 σ2 H2 s2 n2 ∧ sWhileN mt mb xq de j s2 n2, fun σ2 H2 z => ⟨j, Nat.lt_succ_self j, z⟩, ?_⟩
      exact fb aS A0 H0 σ' H1 s' n1 xq { de with nx := fun s2 n2 => sWhileN mt mb xq de j s2 n2, ct := fun s2 n2 => sWhileN mt mb xq de j s2 n2, bk := de.nx } _ (S'.step k1 st1) L
        ⟨fun σ4 H4 s4 n4 S4 q4 => ⟨s4, n4, S4, q4⟩, k.rt, fun σ4 H4 s4 n4 S4 q4 => k.nx σ4 H4 s4 n4 S4 q4, fun σ4 H4 s4 n4 S4 q4 => ⟨s4, n4, S4, q4⟩⟩ q
    | false =>
      rw [if_neg (by decide)]
      exact k.nx σ' H1 s' n1 (S'.step k1 st1) q
/-! ### comprehensions -/
def sLcL (g : DG) (mt : EM Bool) (me : EM D) (xq : XQ) (s0 : Ev) : List D → Nat → List D → (List D → Nat → Prop) → Prop
  | [], n, acc, Q => Q acc n
  | d :: ds, n, acc, Q => g d s0 fun s1 => mt xq s1 n fun c n1 => if c = true then me xq s1 n1 fun x n2 => sLcL g mt me xq s0 ds n2 (acc ++ [x]) Q else sLcL g mt me xq s0 ds n1 acc Q
def eLc (mi : EM (List D)) (hs : List Nat) (g : DG) (mt : EM Bool) (me : EM D) : EM D := fun xq s n Q => mi xq s n fun ds n1 => ds.length ≤ LIM ∧ sLcL g mt me (fun _ _ => False) (hideL s hs) ds n1 [] fun xs n2 => Q (.lst xs) n2
def tYesD : EM Bool := fun _ _ n Q => Q true n
/-- the tests of a clause -/
def VTs (X : Cx) (E : XK) (O : List Nat) (ifs : List Expr) (m : EM Bool) : Prop := Mn m ∧ ∃ t, PTs X ifs t ∧ ∀ (aS : Addr) (A0 : A0T) (H0 : Hp) (σ : L2.St) (H : Hp) (s : Ev) (n : Nat) (xq : XQ) (Q : Bool → Hp → Prop), SR X.K aS O A0 H0 σ H s n → LX X.K E aS A0 H0 xq →
  m xq s n (fun b n' => ∀ H', KpS aS H H' → StA X.K aS H' n' → Q b H') → t σ H Q
theorem vts_nil : VTs X E O [] tYesD := ⟨fun _ _ _ _ _ hq h => hq _ _ h, _, pts_nil, fun aS A0 H0 σ H s n xq Q S L hm => hm H KpS.refl S.st⟩
theorem vts_one {c : Expr} (h : VT X E O c mt) : VTs X E O [c] mt := by
  obtain ⟨mn, t, p, f⟩ := h
  exact ⟨mn, t, pts_one p, f⟩
end
end DL
namespace DL
open PySem PySem.Spec PyProof.Rows L2
variable [TabC]
section
variable {K : PySem.W.Frag} {aS a p : Addr} {H H' H0 H1 Hb : Hp} {A : AS} {A0 : A0T} {O OB : List Nat} {σ : L2.St} {s : Ev} {n i : Nat}
theorem SR.hide2 (S : SR K aS O A0 H0 σ H s n) (hi : i ∉ O) : SR K aS O A0 H0 (σ.set i none) H (s.set i none) n where
  len := by rw [List.length_set, List.length_set]; exact S.len
  sh := fun j d e hj => by
    rw [AV.set hi]
    by_cases hji : j = i
    · subst hji
      have hl : j < s.length := by
        have := (List.getElem?_eq_some_iff.mp e).1
        rwa [List.length_set] at this
      rw [List.getElem?_set_self hl] at e
      cases e
    · rw [set_other hji] at e ⊢
      exact S.sh j d e hj
  ow := fun j hj => by
    have hji : j ≠ i := fun z => hi (z ▸ hj)
    rw [AV.set hi, set_other hji, set_other hji]
    exact S.ow j hj
  ds := fun j k b hj hk e1 e2 => by
    rw [set_other (show j ≠ i from fun z => hi (z ▸ hj))] at e1
    rw [set_other (show k ≠ i from fun z => hi (z ▸ hk))] at e2
    exact S.ds j k b hj hk e1 e2
  fr := S.fr
  st := S.st
  av := S.av
  pn := fun h a e => by
    rw [set_other (show 0 ≠ i from fun z => hi (z ▸ h))]
    exact S.pn h a e
theorem SR.wipe : ∀ {vs : List Nat}, (∀ j ∈ vs, j ∉ O) → SR K aS O A0 H0 σ H s n → SR K aS O A0 H0 (L2.wipe σ vs) H (hideL s vs) n
  | [], _, S => S
  | v :: vs, h, S => (SR.wipe (vs := vs) (fun j hj => h j (List.mem_cons_of_mem _ hj)) S).hide2 (h v List.mem_cons_self)
theorem AV.wipe {A0 : AS} : ∀ {vs : List Nat}, (∀ j ∈ vs, j ∉ O) → AV aS A0 O (L2.wipe σ vs) = AV aS A0 O σ
  | [], _ => rfl
  | v :: vs, h => (AV.set (h v List.mem_cons_self)).trans (AV.wipe (vs := vs) fun j hj => h j (List.mem_cons_of_mem _ hj))
theorem hideL_append (s : Ev) : ∀ vs hs : List Nat, hideL s (vs ++ hs) = hideL (hideL s hs) vs
  | [], _ => rfl
  | v :: vs, hs => by rw [List.cons_append, hideL, hideL, hideL_append s vs hs]
theorem wipe_out : ∀ {vs : List Nat} {j : Nat}, j ∉ vs → (L2.wipe σ vs)[j]? = σ[j]?
  | [], _, _ => rfl
  | v :: vs, j, h => by
    rw [L2.wipe, set_other (show j ≠ v from fun z => h (z ▸ List.mem_cons_self))]
    exact wipe_out fun z => h (List.mem_cons_of_mem _ z)
theorem wipe_in : ∀ {vs : List Nat} {j : Nat}, j ∈ vs → j < σ.length → (L2.wipe σ vs)[j]? = some none
  | v :: vs, j, h, hl => by
    rw [L2.wipe]
    by_cases z : j = v
    · rw [z]
      exact List.getElem?_set_self (by rw [wipe_length, ← z]; exact hl)
    · rw [set_other z]
      exact wipe_in ((List.mem_cons.mp h).resolve_left z) hl
theorem wipe_eq {σ2 : L2.St} {vs : List Nat} (hl : σ2.length = σ.length) (h : ∀ j, j ∉ vs → σ2[j]? = σ[j]?) : L2.wipe σ2 vs = L2.wipe σ vs := by
  apply List.ext_getElem?
  intro j
  by_cases hj : j ∈ vs
  · by_cases hlt : j < σ.length
    · rw [wipe_in hj hlt, wipe_in hj (by rw [hl]; exact hlt)]
    · rw [List.getElem?_eq_none (by rw [wipe_length, hl]; omega), List.getElem?_eq_none (by rw [wipe_length]; omega)]
  · rw [wipe_out hj, wipe_out hj]
    exact h j hj
theorem AV.plus {A0 : AS} : AV aS (fun b => A0 b ∨ b = p) O σ = fun b => AV aS A0 O σ b ∨ b = p := by
  funext b
  unfold AV
  refine propext ⟨fun z => ?_, fun z => ?_⟩
  · rcases z with (z | z) | z | z
    · exact .inl (.inl z)
    · exact .inr z
    · exact .inl (.inr (.inl z))
    · exact .inl (.inr (.inr z))
  · rcases z with (z | z | z) | z
    · exact .inl (.inl z)
    · exact .inr (.inl z)
    · exact .inr (.inr z)
    · exact .inl (.inr z)
/-- a new object that is kept for oneself -/
theorem SR.laidA {o : HO} (S : SR K aS O A0 H0 σ H s n) (hp : H p = none) (ho : ∀ ps, o ≠ .tbl ps := by intro _ z; cases z) : SR K aS O ⟨fun b => A0 b ∨ b = p, A0.z⟩ H0 σ (upd H p o) s n := by
  have up : ∀ b u, H b = some u → upd H p o b = some u := fun b u e => by rw [upd_ne (ne_of_none e hp)]; exact e
  refine ⟨S.len, fun j d e hj => ?_, fun j hj => ?_, S.ds, S.fr.trans (KpS.upd hp), S.st.upd hp ho, fun b hb => ?_, S.pn⟩
  · rw [AV.plus]
    obtain ⟨v, ev, r⟩ := S.sh j d e hj
    exact ⟨v, ev, Rep.mono (sub_new hp) _ _ r⟩
  · rw [AV.plus]
    obtain ⟨d, b, e1, e2, e3, e4, e5, e6⟩ := S.ow j hj
    refine ⟨d, b, e1, e2, e3, fun z => z.elim e4 fun z => S.new hp (.inr (.inr ⟨j, hj, z ▸ e2⟩)), e5, ?_⟩
    cases d with
    | lst ds => obtain ⟨xs, e, q⟩ := e6; exact ⟨xs, up _ _ e, RepL.mono (sub_new hp) _ _ q⟩
    | dic ds => obtain ⟨xs, e, q⟩ := e6; exact ⟨xs, up _ _ e, RepK.mono (sub_new hp) _ _ q⟩
    | dmx ds => obtain ⟨xs, e, q⟩ := e6; exact ⟨xs, up _ _ e, RepP.mono (sub_new hp) _ _ q⟩
    | obj C ds => obtain ⟨dx, xs, e, q⟩ := e6; exact ⟨dx, xs, up _ _ e, RepF.mono (sub_new hp) _ _ q⟩
    | _ => exact e6.elim
  · rcases hb with hb | hb
    · obtain ⟨u, e⟩ := S.av b hb
      exact ⟨u, up _ _ e⟩
    · exact ⟨o, by rw [hb]; exact upd_same⟩
/-- what is kept for oneself is changed -/
theorem sub_poke {o o' : HO} (hA : A p) (ho : H p = some o) (hk : ∀ xs, o ≠ .tup xs) : Sub K H (upd H p o') A A := by
  have ne : ∀ b, ¬ A b → b ≠ p := fun b h z => h (z ▸ hA)
  have up : ∀ b u, H b = some u → b ≠ p → upd H p o' b = some u := fun b u q z => by rw [upd_ne z]; exact q
  refine ⟨fun b xs h q => ⟨h, up _ _ q (ne b h)⟩, fun b xs q => q.elim (fun q => .inl (up _ _ q fun z => ?_)) .inr, fun b ys h q => ⟨h, ?_⟩, fun b ys h q => ⟨h, ?_⟩, fun b C dx ys h q => ⟨h, up _ _ q (ne b h)⟩, fun b u _ h q => ⟨h, up _ _ q (ne b h)⟩⟩
  · have q : H b = _ := q
    rw [z, ho] at q
    cases q
    exact hk _ rfl
  all_goals
    rcases q with q | ⟨z, q⟩
    · exact .inl (up _ _ q (ne b h))
    · exact .inr ⟨z, up _ _ q (ne b h)⟩
theorem SR.poke {o o' : HO} (S : SR K aS O A0 H0 σ H s n) (hA : A0 p) (hs : p ≠ aS) (ho : H p = some o) (h0 : H0 p = none) (hk : ∀ xs, o ≠ .tup xs) (hf : ∀ ob u, o ≠ .frz ob u) (ht : ∀ ps, o ≠ .tbl ps := by intro _ z; cases z) (hx : ∀ c q, o ≠ LamX.CodeO c q := by intro _ _ z; unfold LamX.CodeO at z; cases z) (ht' : ∀ ps, o' ≠ .tbl ps := by intro _ z; cases z) : SR K aS O A0 H0 σ (upd H p o') s n := by
  have hAV : AV aS A0 O σ p := .inl hA
  have up : ∀ b u, H b = some u → b ≠ p → upd H p o' b = some u := fun b u q z => by rw [upd_ne z]; exact q
  have sub : Sub K H (upd H p o') (AV aS A0 O σ) (AV aS A0 O σ) := sub_poke hAV ho hk
  refine ⟨S.len, fun j d ej hj => ?_, fun j hj => ?_, S.ds, fun b u q z => (S.fr b u q z).trans fun v e' => .of (up _ _ e' (fun z => by rw [z, h0] at q; cases q)), ?_, fun b hb => ?_, S.pn⟩
  · obtain ⟨v, q1, r⟩ := S.sh j d ej hj
    exact ⟨v, q1, Rep.mono sub _ _ r⟩
  · obtain ⟨d, b, q1, q2, q3, q4, q5, q6⟩ := S.ow j hj
    have hb : b ≠ p := fun z => q4 (z ▸ hA)
    refine ⟨d, b, q1, q2, q3, q4, q5, ?_⟩
    cases d with
    | lst ds => obtain ⟨xs, e, q⟩ := q6; exact ⟨xs, up _ _ e hb, RepL.mono sub _ _ q⟩
    | dic ds => obtain ⟨xs, e, q⟩ := q6; exact ⟨xs, up _ _ e hb, RepK.mono sub _ _ q⟩
    | dmx ds => obtain ⟨xs, e, q⟩ := q6; exact ⟨xs, up _ _ e hb, RepP.mono sub _ _ q⟩
    | obj C ds => obtain ⟨dx, xs, e, q⟩ := q6; exact ⟨dx, xs, up _ _ e hb, RepF.mono sub _ _ q⟩
    | _ => exact q6.elim
  · obtain ⟨a0, cs, i', g, m, d', z1, z2, ⟨ob, z3⟩, z4, z5, z6, z7, z8, z9, zt⟩ := S.st
    refine ⟨a0, cs, i', g, m, d', up _ _ z1 (Ne.symm hs), z2, ⟨ob, up _ _ z3 fun z => ?_⟩, z4, z5, z6, z7, z8, z9, tabs_poke zt ho ht hx ht'⟩
    rw [z, ho] at z3
    cases z3
    exact hf _ _ rfl
  · by_cases z : b = p
    · rw [z, upd_same]
      exact ⟨_, rfl⟩
    · obtain ⟨u, q⟩ := S.av b hb
      exact ⟨u, up _ _ q z⟩
end
/-! a reading for all blocks at once -/
abbrev Bk := Shared × Hp × Addr × List (Str × Addr) × List Addr
abbrev Cx.bk (X : Cx) (scope : Scope) (c : Bk) : Cx := X.blk c.1 c.2.1 scope (compEnvC scope c.2.2.2.1 c.2.2.1 X.env) c.2.2.2.2
section
variable {X : Cx} {E : XK} {O OB vs hid : List Nat} {tg e iter : Expr} {ifs : List Expr} {m me : EM D} {mi : EM (List D)} {mt : EM Bool} {g : DG} {scope : Scope} {pos : Pos}
theorem VX.all {R : RK} (h : ∀ c : Bk, VX R (Cx.bk X scope c) E O e m) : ∃ t, (∀ c : Bk, PE (Cx.bk X scope c) e t) ∧ ∀ (aS : Addr) (A0 : A0T) (H0 : Hp) (σ : L2.St) (H : Hp) (s : Ev) (n : Nat) (xq : XQ) (Q : VK), SR X.K aS O A0 H0 σ H s n → LX X.K E aS A0 H0 xq →
    m xq s n (fun d n' => ∀ v H', KpS aS H H' → StA X.K aS H' n' → R X.K aS H' (AV aS A0 O σ) d v → Q v H') → t σ H Q := by
  have h2 := fun c => (h c).2
  refine ⟨fun σ H Q => ∀ c, Classical.choose (h2 c) σ H Q, fun c => ⟨fun pins s σ H Q I q => (Classical.choose_spec (h2 c)).1.run pins s σ H Q I (q c)⟩, fun aS A0 H0 σ H s n xq Q S L hm c => (Classical.choose_spec (h2 c)).2 aS A0 H0 σ H s n xq Q S L hm⟩
theorem VTs.all (h : ∀ c : Bk, VTs (Cx.bk X scope c) E O ifs mt) : ∃ t, (∀ c : Bk, PTs (Cx.bk X scope c) ifs t) ∧ ∀ (aS : Addr) (A0 : A0T) (H0 : Hp) (σ : L2.St) (H : Hp) (s : Ev) (n : Nat) (xq : XQ) (Q : Bool → Hp → Prop), SR X.K aS O A0 H0 σ H s n → LX X.K E aS A0 H0 xq →
    mt xq s n (fun b n' => ∀ H', KpS aS H H' → StA X.K aS H' n' → Q b H') → t σ H Q := by
  have h2 := fun c => (h c).2
  refine ⟨fun σ H Q => ∀ c, Classical.choose (h2 c) σ H Q, fun c => ⟨fun pins s σ H Q I q => (Classical.choose_spec (h2 c)).1.run pins s σ H Q I (q c)⟩, fun aS A0 H0 σ H s n xq Q S L hm c => (Classical.choose_spec (h2 c)).2 aS A0 H0 σ H s n xq Q S L hm⟩
theorem VG.all (h : ∀ c : Bk, VG (Cx.bk X scope c) O vs tg g) : ∃ gt, (∀ c : Bk, PG (Cx.bk X scope c) tg gt) ∧ ∀ (aS : Addr) (A0 : A0T) (H0 : Hp) (σ : L2.St) (H : Hp) (s : Ev) (n : Nat) (d : D) (v : V) (Q : Ev → Prop) (QH : L2.St → Hp → Prop), SR X.K aS O A0 H0 σ H s n → Rep X.K aS H (AV aS A0 O σ) d v → g d s Q →
    (∀ σ' s', SR X.K aS O A0 H0 σ' H s' n → σ'.length = σ.length → (∀ j, j ∉ vs → σ'[j]? = σ[j]?) → AV aS A0 O σ' = AV aS A0 O σ → Q s' → QH σ' H) → gt v σ H QH := by
  have h2 := fun c => (h c).2
  refine ⟨fun v σ H Q => ∀ c, Classical.choose (h2 c) v σ H Q, fun c => ⟨fun pins s σ H v u Q I r q => (Classical.choose_spec (h2 c)).1.run pins s σ H v u Q I r (q c)⟩, fun aS A0 H0 σ H s n d v Q QH S r hm k c => (Classical.choose_spec (h2 c)).2 aS A0 H0 σ H s n d v Q QH S r hm k⟩
def bk0 : Bk := ({}, fun _ => none, 0, [], [])
theorem mn_lcL (h1 : Mn mt) (h2 : Mn me) (h3 : ∀ d s Q Q', (∀ s', Q s' → Q' s') → g d s Q → g d s Q') {xq : XQ} {s0 : Ev} : ∀ (ds : List D) (n : Nat) (acc : List D) (Q Q' : List D → Nat → Prop), (∀ x n, Q x n → Q' x n) → sLcL g mt me xq s0 ds n acc Q → sLcL g mt me xq s0 ds n acc Q'
  | [], n, acc, Q, Q', hq, h => hq _ _ h
  | d :: ds, n, acc, Q, Q', hq, h => h3 _ _ _ _ (fun s1 h => h1 _ _ _ _ _ (fun c n1 h => by
      cases c with
      | true => exact h2 _ _ _ _ _ (fun x n2 h => mn_lcL h1 h2 h3 ds n2 _ Q Q' hq h) h
      | false => exact mn_lcL h1 h2 h3 ds n1 _ Q Q' hq h) h) h
theorem vf_lcAt {own : List (Str × Nat)} {ws : List Nat} (hc : X.calm = true) (hN : X.N.Nodup) (hi : VI X E O OB hid tg iter mi) (ok : BlkOk X.N X.env.scope scope own) (hown : ∀ j ∈ own.map (·.2), j ∉ OB) (hws : ∀ j ∈ ws, j ∈ own.map (·.2))
    (hg : ∀ c : Bk, VG (Cx.bk X scope c) OB ws tg g) (ht : ∀ c : Bk, VTs (Cx.bk X scope c) EF OB ifs mt) (he : ∀ c : Bk, VE (Cx.bk X scope c) EF OB e me) :
    Mn (eLc mi (own.map (·.2) ++ hid) g mt me) ∧ ∃ wi gt tt te, PI X tg iter wi ∧ (∀ c : Bk, PG (Cx.bk X scope c) tg gt) ∧ (∀ c : Bk, PTs (Cx.bk X scope c) ifs tt) ∧ (∀ c : Bk, PE (Cx.bk X scope c) e te) ∧
      ∀ (aS : Addr) (A0 : A0T) (H0 : Hp) (σ : L2.St) (H : Hp) (s : Ev) (n : Nat) (xq : XQ) (Q : VK), SR X.K aS O A0 H0 σ H s n → LX X.K E aS A0 H0 xq →
      eLc mi (own.map (·.2) ++ hid) g mt me xq s n (fun d n' => ∀ a H', H a = none → KpS aS H H' → StA X.K aS H' n' → Own X.K aS H' (fun b => AV aS A0 O σ b ∨ b = a) a d → Q (.ref a) H') → tLc wi gt tt te (own.map (·.2)) σ H Q := by
  have mnt := (ht bk0).1
  have mne := (he bk0).1
  have mng := (hg bk0).1
  obtain ⟨mni, wi, pi, fi⟩ := hi
  obtain ⟨gt, pg, fg⟩ := VG.all hg
  obtain ⟨tt, pt, ft⟩ := VTs.all ht
  obtain ⟨te, pe, fe⟩ := VX.all he
  refine ⟨fun xq s n Q Q' hq h => mni _ _ _ _ _ (fun ds n1 h => ⟨h.1, mn_lcL mnt mne mng _ _ _ _ _ (fun x n2 => hq _ _) h.2⟩) h, wi, gt, tt, te, pi, pg, pt, pe, fun aS A0 H0 σ H s n xq Q S L hm => ?_⟩
  have LF : ∀ A1, LX X.K EF aS A1 H0 (fun _ _ => False) := fun _ _ _ _ _ _ _ _ _ z => z.elim
  refine fi aS A0 H0 σ H s n xq _ S L (mni _ _ _ _ _ (fun ds n1 q J H1 A1 kp st eA S1 it => ?_) hm)
  obtain ⟨hlim, q⟩ := q
  intro Dn hD
  obtain ⟨G, Y, w, hG, hY⟩ := it
  have hDs : Dn ≠ aS := fun z => by
    obtain ⟨xs, e⟩ := st.lst
    rw [z, e] at hD
    cases hD
  have hD0 : H0 Dn = none := Option.eq_none_iff_forall_ne_some.mpr fun u z => by
    exact (KpS.gone S1.fr hD z (hDs)).elim
  have hDH : H Dn = none := Option.eq_none_iff_forall_ne_some.mpr fun u z => by
    exact (KpS.gone kp hD z (hDs)).elim
  have S2 : SR X.K aS OB ⟨fun b => A1 b ∨ b = Dn, A1.z⟩ H0 (L2.wipe σ (own.map (·.2))) (upd H1 Dn (.lst [])) (hideL s (own.map (·.2) ++ hid)) n1 := by
    rw [hideL_append]
    exact (SR.wipe hown S1).laidA hD
  have hFar : ∀ {σ'}, AV aS (fun b => A1 b ∨ b = Dn) OB σ' = AV aS (fun b => A1 b ∨ b = Dn) OB σ → Far aS A1 (bare OB σ H1) (AV aS (fun b => A1 b ∨ b = Dn) OB σ') := fun {σ'} e => by
    rw [e]
    refine ⟨AV.st, fun b z => ?_⟩
    rcases z with (z | z) | z | z
    · exact .inl z
    · refine .inr (.inr ?_)
      by_cases y : ∃ i, i ∈ OB ∧ σ[i]? = some (some (.ref b))
      · exact bare_own y
      · rw [bare_not y, z]; exact hD
    · exact .inr (.inl z)
    · exact .inr (.inr (bare_own z))
  have eW : AV aS (fun b => A1 b ∨ b = Dn) OB (L2.wipe σ (own.map (·.2))) = AV aS (fun b => A1 b ∨ b = Dn) OB σ := AV.wipe hown
  have kb : ∀ {H'}, KpS aS H1 H' → KpS aS (bare OB σ H1) H' := fun {H'} k b u e z => k b u (bare_some e) z
  refine lc_it w (fun i H' => ∃ n' acc xs, SR X.K aS OB ⟨fun b => A1 b ∨ b = Dn, A1.z⟩ H0 (L2.wipe σ (own.map (·.2))) H' (hideL s (own.map (·.2) ++ hid)) n' ∧ KpS aS H1 H' ∧ H' Dn = some (.lst xs) ∧ RepL X.K aS H' (AV aS (fun b => A1 b ∨ b = Dn) OB σ) acc xs ∧ acc.length ≤ i ∧
      sLcL g mt me (fun _ _ => False) (hideL s (own.map (·.2) ++ hid)) (ds.drop i) n' acc (fun xs n2 => ∀ a H', H a = none → KpS aS H H' → StA X.K aS H' n2 → Own X.K aS H' (fun b => AV aS A0 O σ b ∨ b = a) a (.lst xs) → Q (.ref a) H'))
    ⟨n1, [], [], S2, KpS.upd hD, upd_same, RepL.nil, Nat.zero_le _, q⟩ (fun i H' _ z => ?_) (fun i x H' H2 hi z y => ?_) (fun H' z => ?_)
  · obtain ⟨n', acc, xs, _, k1, _⟩ := z
    exact hG H' (kb k1)
  · obtain ⟨n', acc, xs, S', k1, hd, rl, hl, q'⟩ := z
    obtain ⟨k2, d, ed, rd⟩ := hY i H' x H2 n' _ hi (kb k1) S'.st (hFar eW) y
    rw [drop_get ed] at q'
    have S3 := S'.step (KpS.all k2.1) (S'.st.kp k2)
    refine fg aS _ H0 _ H2 _ n' d x _ _ S3 rd q' fun σ3 s3 S4 l3 o3 a3 q3 => ?_
    refine ⟨?_, ft aS _ H0 σ3 H2 s3 n' (fun _ _ => False) _ S4 (LF _) (mnt _ _ _ _ _ (fun c n2 q4 H3 k3 st3 => ?_) q3)⟩
    · have e1 := wipe_eq (vs := own.map (·.2)) l3 fun j hj => o3 j fun z => hj (hws j z)
      rw [e1]
      exact wipe_eq (wipe_length _ _) fun j hj => wipe_out hj
    · have kk : KpS aS H' H3 := (KpS.all k2.1).trans k3
      cases c with
      | true =>
        rw [if_pos rfl] at q4 ⊢
        refine fe aS _ H0 σ3 H3 s3 n2 (fun _ _ => False) _ (S4.step k3 st3) (LF _) (mne _ _ _ _ _ (fun y n3 q5 v H4 k4 st4 r4 => ?_) q4)
        have k5 := kk.trans k4
        refine ⟨xs, k5.lst hd hDs, ?_, n3, acc ++ [y], xs ++ [v], ?_, KpS.upd2 (k1.trans k5) hD, upd_same, ?_, by rw [List.length_append]; exact Nat.succ_le_succ hl, q5⟩
        · rw [rl.length]
          exact Nat.lt_of_le_of_lt hl (lim_lt (Nat.lt_of_lt_of_le hi hlim))
        · exact (S'.step k5 st4).poke (.inr rfl) hDs (k5.lst hd hDs) hD0 (fun _ z => nomatch z) (fun _ _ z => nomatch z)
        · have e2 : AV aS (fun b => A1 b ∨ b = Dn) OB σ3 = AV aS (fun b => A1 b ∨ b = Dn) OB σ := a3.trans eW
          rw [e2] at r4
          exact RepL.mono (sub_poke (A := AV aS (fun b => A1 b ∨ b = Dn) OB σ) (.inl (.inr rfl)) (k5.lst hd hDs) (fun _ z => nomatch z)) _ _ ((rl.kp k5 S'.st AV.st).app (RepL.cons r4 RepL.nil))
      | false =>
        rw [if_neg (by decide)] at q4 ⊢
        exact ⟨n2, acc, xs, S'.step kk st3, k1.trans kk, kk.lst hd hDs, rl.kp kk S'.st AV.st, Nat.le_succ_of_le hl, q4⟩
  · obtain ⟨n', acc, xs, S', k1, hd, rl, hl, q'⟩ := z
    rw [List.drop_length] at q'
    refine q' Dn H' hDH (kp.trans k1) S'.st ⟨xs, hd, ?_⟩
    rw [AV.plus, eA] at rl
    exact rl
theorem vf_lc {own : List (Str × Nat)} {ws : List Nat} (hc : X.calm = true) (hN : X.N.Nodup) (hi : VI X E O OB hid tg iter mi) (ok : BlkOk X.N X.env.scope scope own) (hown : ∀ j ∈ own.map (·.2), j ∉ OB) (hws : ∀ j ∈ ws, j ∈ own.map (·.2))
    (hg : ∀ c : Bk, VG (Cx.bk X scope c) OB ws tg g) (ht : ∀ c : Bk, VTs (Cx.bk X scope c) EF OB ifs mt) (he : ∀ c : Bk, VE (Cx.bk X scope c) EF OB e me) (hs : ∀ x, foldedSetIterable iter X.env x = pure x := by intro _; rfl) :
    VF X E O (.ListComp e [⟨tg, iter, ifs, 0⟩] scope pos) (eLc mi (own.map (·.2) ++ hid) g mt me) := by
  obtain ⟨mn, wi, gt, tt, te, pi, pg, pt, pe, f⟩ := vf_lcAt hc hN hi ok hown hws hg ht he
  refine ⟨mn, _, pe_lc hc hN pi ok (fun s H C cl fp => pg (s, H, C, cl, fp)) (fun s H C cl fp => pt (s, H, C, cl, fp)) (fun s H C cl fp => pe (s, H, C, cl, fp)) hs, fun aS A0 H0 σ H s n xq Q S L hm => f aS A0 H0 σ H s n xq Q S L hm⟩
/-- name = [..]: the name owns the new list -/
theorem vs_setLc {own : List (Str × Nat)} {ws : List Nat} {i : Nat} {y : Str} {py spos : Pos} {OL : List Nat} (hiO : i ∉ O) (hi0 : i ≠ 0) (hc : X.calm = true) (hN : X.N.Nodup) (hy : X.N[i]? = some y) (hyl : X.env.scope.names.lookup y = some .local)
    (hsw : swapsWith (.ListComp e [⟨tg, iter, ifs, 0⟩] scope pos) (some (.Name y py)) spos.line X.env = pure true) (hi : VI X E O OB hid tg iter mi) (ok : BlkOk X.N X.env.scope scope own) (hown : ∀ j ∈ own.map (·.2), j ∉ OB) (hws : ∀ j ∈ ws, j ∈ own.map (·.2))
    (hg : ∀ c : Bk, VG (Cx.bk X scope c) OB ws tg g) (ht : ∀ c : Bk, VTs (Cx.bk X scope c) EF OB ifs mt) (he : ∀ c : Bk, VE (Cx.bk X scope c) EF OB e me) (hs : ∀ x, foldedSetIterable iter X.env x = pure x := by intro _; rfl) :
    VS X E O (i :: O) OL (.Assign [.Name y py] (.ListComp e [⟨tg, iter, ifs, 0⟩] scope pos) spos) (fun xq de s n => i < s.length ∧ sSet i (eLc mi (own.map (·.2) ++ hid) g mt me) xq de s n) := by
  obtain ⟨mn, wi, gt, tt, te, pi, pg, pt, pe, f⟩ := vf_lcAt hc hN hi ok hown hws hg ht he
  refine ⟨_, ps_setLc hc hN hy hyl hsw pi ok (fun s H C cl fp => pg (s, H, C, cl, fp)) (fun s H C cl fp => pt (s, H, C, cl, fp)) (fun s H C cl fp => pe (s, H, C, cl, fp)) hs, fun aS A0 H0 σ H s n xq de De S L k h => ?_⟩
  exact f aS A0 H0 σ H s n xq _ S L (mn _ _ _ _ _ (fun d n' q a H' ha kp st o => k.nx _ H' _ n' (S.own hiO hi0 h.1 ha kp st o) q) h.2)
end
end DL
namespace DL
open PySem PySem.Spec PyProof.Rows L2
variable [TabC]
/-! ### what leaves by an error -/
/-- what is raised with the wish E is taken -/
def TK (X : Cx) (E : XK) : Prop := Takes X (fun c d _ H => E c d H)
/-- locks (none of them the entry's) are let go -/
inductive Unl (H0 : Hp) : Hp → Hp → Prop
  | refl (H : Hp) : Unl H0 H H
  | step {H H2 : Hp} {b : Addr} {od : Obj} {u : HO} : H b = some (.frz od u) → (∀ o' u', H0 b ≠ some (.frz o' u')) → Unl H0 (upd H b u) H2 → Unl H0 H H2
def EU (H0 : Hp) (E : XK) : XK := fun c d H => ∃ H2, Unl H0 H H2 ∧ E c d H2
def UC (X : Cx) (E : XK) : Prop := ∀ (c : Value) (d : Option Addr) (H : Hp) (b : Addr) (od : Obj) (u : HO), H b = some (.frz od u) → (∀ o' u', X.H_0 b ≠ some (.frz o' u')) → E c d (upd H b u) → E c d H

section
variable {X : Cx} {E : XK} {K : PySem.W.Frag} {aS : Addr} {A0 : A0T} {O : List Nat} {σ : L2.St} {H H0 : Hp} {s : Ev} {n : Nat} {xq : XQ}
theorem uc_eu : UC X (EU X.H_0 E) := fun c d H b od u h hn ⟨H2, un, e⟩ => ⟨H2, .step h hn un, e⟩
theorem uc_f : UC X EF := fun c d H b od u _ _ z => z
theorem tk_f : TK X EF := fun u s' ⟨_, _, _, _, _, _, _, _, _, _, _, _, _, _, _, _, w⟩ => w.elim
theorem inv_unl {pins : List (Addr × Obj)} {s : Shared} {H2 : Hp} (un : Unl X.H_0 H H2) : Inv X pins σ H s → Inv X pins σ H2 s := by
  induction un with
  | refl => exact fun I => I
  | step h hn _ ih => exact fun I => ih (I.unlock h hn)
theorem none_unl {H2 : Hp} {a : Addr} (un : Unl H0 H H2) : H a = none → H2 a = none := by
  induction un with
  | refl => exact fun z => z
  | @step H H2 b od u h hn _ ih => exact fun z => ih (by rw [upd_ne (fun e => by rw [e, h] at z; cases z)]; exact z)
theorem tk_eu (t : TK X E) : TK X (EU X.H_0 E) := fun u s' ⟨a, B, sI, pins, σ, H, cls, d, e, I, nb, up, sky, na, os, ag, H2, un, w⟩ =>
  t u s' ⟨a, B, sI, pins, σ, H2, cls, d, e, inv_unl un I, nb, up, sky, none_unl un na, os, ag, w⟩
theorem LX.eu {A : AS} (L : LX K E aS A H xq) : LX K (EU H0 E) aS A H xq := fun C fs n d H' k st r q => ⟨H', .refl _, L C fs n d H' k st r q⟩
theorem lx_no {A : AS} : LX K E aS A H (fun _ _ => False) := fun _ _ _ _ _ _ _ _ z => z.elim
/-- what a callee raises -/
theorem LX.call (S : SR K aS O A0 H0 σ H s n) (L : LX K E aS A0 H0 xq) : LX K E aS (AV aS A0 O σ) H xq := fun C fs n' d H' k st r q => by
  refine L C fs n' d H' (S.fr.trans k) st ?_ q
  cases d with
  | none => exact r
  | some a =>
    obtain ⟨ys, h1, h2, h3⟩ := r
    refine ⟨ys, ?_, h2, RepF.mono (sub_le fun b z => ?_) _ _ h3⟩
    · cases e : H0 a with
      | none => rfl
      | some u =>
        by_cases ha : a = aS
        · obtain ⟨xs, q⟩ := S.st.lst
          rw [ha, q] at h1
          cases h1
        · exact (KpS.gone S.fr h1 e (ha)).elim
    · rcases z with z | z | ⟨j, hj, _⟩
      · exact .inl (.inl z)
      · exact .inr (.inl z)
      · cases hj
end
theorem FnOk.loud {P : Program} {w : World} {K : PySem.W.Frag} {mg : Str → Option Value} {base : Heap} {k : Nat} {f : Addr} {fd : FuncData} {ps : List Str} {sp : Sp} (F : FnOk P w K mg base CX0 k f fd ps sp) : FnOk P w K mg base (CX P w) k f fd ps sp :=
  ⟨F.len, fun A outer s H args us vs Q E hr e0 hb r h => codeAny_mono (F.run A outer s H args us vs Q E hr e0 hb r h) fun r s' q => by
    cases r with
    | ok fl => cases fl <;> exact q
    | error e => exact False.elim q⟩
end DL
namespace DL
open PySem PySem.Spec PyProof.Rows L2
variable [TabC]
/-! ### defs -/
structure FSp where
  run : List D → Nat → (D → Nat → Prop) → XQ → Prop
  mn : ∀ ds n Q Q' xq, (∀ d n', Q d n' → Q' d n') → run ds n Q xq → run ds n Q' xq
theorem AV.of {aS : Addr} {A : AS} (h : A aS) : AV aS A [] [] = A := by
  funext b
  refine propext ⟨fun z => ?_, fun z => .inl z⟩
  rcases z with z | z | ⟨j, hj, _⟩
  · exact z
  · exact z ▸ h
  · cases hj
/-- the promise of a def, over values and heaps -/
def lift (K : PySem.W.Frag) (len : Nat) (sp : FSp) : Sp := fun vs H Q E => ∃ (aS : Addr) (A0 : AS) (ds : List D) (n : Nat) (xq : XQ), ds.length = len ∧ RepL K aS H (AV aS A0 [] []) ds vs ∧ StA K aS H n ∧ (∀ a, A0 a → ∃ u, H a = some u) ∧ LX K E aS A0 H xq ∧
  sp.run ds n (fun d n' => ∀ v H', KpS aS H H' → StA K aS H' n' → Rep K aS H' (AV aS A0 [] []) d v → Q v H') xq
def startD (N : List Str) (ds : List D) : Ev := ds.map some ++ List.replicate (N.length - ds.length) none
theorem start_get {α : Type} {l : List α} {k i : Nat} {x : α} (h : (l.map some ++ List.replicate k none)[i]? = some (some x)) : l[i]? = some x := by
  by_cases hi : i < l.length
  · rw [List.getElem?_append_left (by simpa using hi), List.getElem?_map] at h
    cases e : l[i]? with
    | none => rw [e] at h; cases h
    | some y => rw [e] at h; cases h; rfl
  · rw [List.getElem?_append_right (by simpa using hi), List.getElem?_replicate] at h
    split at h <;> cases h
theorem get_start {α : Type} {l : List α} {k i : Nat} {x : α} (h : l[i]? = some x) : (l.map some ++ List.replicate k none)[i]? = some (some x) := by
  have hi := (List.getElem?_eq_some_iff.mp h).1
  rw [List.getElem?_append_left (by simpa using hi), List.getElem?_map, h]
  rfl
section
variable {P : Program} {w : World} {K : PySem.W.Frag} {mg : Str → Option Value} {base : Heap} {x qual : Str} {params : Arguments} {body : List Stmt} {scope : Scope} {dvs : List V} {kws : List (Str × V)} {f : Addr} {fd : FuncData}
theorem SR.start {aS : Addr} {A0 : AS} {H : Hp} {N : List Str} {ds : List D} {vs : List V} {n : Nat} (r : RepL K aS H (AV aS A0 [] []) ds vs) (st : StA K aS H n) (av : ∀ a, A0 a → ∃ u, H a = some u) : SR K aS [] ⟨A0, none⟩ H (L2.start N vs) H (startD N ds) n := by
  have eA : AV aS A0 [] (L2.start N vs) = AV aS A0 [] [] := by
    funext b
    refine propext ⟨fun z => ?_, fun z => av_nil b z⟩
    rcases z with z | z | ⟨j, hj, _⟩
    · exact .inl z
    · exact .inr (.inl z)
    · cases hj
  refine ⟨?_, fun i d e _ => ?_, (fun i hi => nomatch hi), (fun i j b hi => nomatch hi), KpS.refl, st, av, (fun hi => nomatch hi)⟩
  · unfold L2.start startD
    rw [List.length_append, List.length_append, List.length_map, List.length_map, List.length_replicate, List.length_replicate, r.length]
  · obtain ⟨v, ev, rv⟩ := r.get (start_get e)
    rw [eA]
    exact ⟨v, get_start ev, rv⟩
theorem dfn {N ps : List Str} {k : Nat} {sp : FSp} {m : SM} {O' : List Nat} (F : FunD K x qual params body scope dvs kws f fd) (Sc : FnScope N ps scope)
    (hb : ∀ (cdv : Value) (A : Around) (outer : List Env) (s : Shared) (H : Hp) (E : XK), Room k (A.deeper (envOfC qual scope s.heap.objs.size f cdv)) → VSs (cxOf (CX P w) P w K mg base N qual scope f cdv A outer s H E) (EU H E) [] O' [] body m)
    (hm : ∀ ds n Q xq, ds.length = ps.length → sp.run ds n Q xq → m xq { nx := fun _ n' => Q .non n', rt := Q } (startD N ds) n) : FnOk P w K mg base (CX P w) (k + 1) f fd ps (lift K ps.length sp) := by
  refine F.ok Sc (fun vs H Q E h => ?_) (fun cdv A outer s H vs Q E hr h => ?_)
  · obtain ⟨aS, A0, ds, n, xq, hl, r, _⟩ := h
    rw [r.length, hl]
  · obtain ⟨aS, A0, ds, n, xq, hl, r, st, av, L, q⟩ := h
    obtain ⟨t, p, ft⟩ := hb cdv A outer s H E hr
    refine ⟨t, p, ft aS ⟨A0, none⟩ H _ H _ n xq _ _ (SR.start r st av) L.eu ?_ (hm ds n _ xq hl q)⟩
    refine ⟨fun σ' H' s' n' S' q' => q' .non H' S'.fr S'.st rep_non, fun v H' d n' kp st' r' q' => q' v H' kp st' r', fun _ _ _ _ _ z => z.elim, fun _ _ _ _ _ z => z.elim⟩
end
/-! ### calls -/
def eCall (len : Nat) (sp : FSp) (dds : List D) (m : EM (List D)) : EM D := fun xq s n Q => m xq s n fun ds n1 => (ds ++ dds).length = len ∧ sp.run (ds ++ dds) n1 Q xq
section
variable {X : Cx} {E : XK} {O : List Nat} {e o : Expr} {es : List Expr} {mo : EM D} {ml : EM (List D)} {pos p : Pos} {x : Str} {f : Addr} {C : Str} {fd : FuncData} {ps : List Str} {k : Nat} {sp : FSp} {dds : List D} {dvs : List V} {us : List Value}
theorem mn_call {len : Nat} (h : Mn ml) : Mn (eCall len sp dds ml) := fun xq s n Q Q' hq w => h _ _ _ _ _ (fun ds n1 w => ⟨w.1, sp.mn _ _ _ _ _ hq w.2⟩) w
abbrev ET : XK := fun _ _ _ => True
theorem passT : Passes CX0 X ET := fun _ _ _ _ _ _ _ h => h.elim
/-- the promise's question, from the caller's state -/
theorem SR.call {K : PySem.W.Frag} {aS : Addr} {A0 : A0T} {H0 H : Hp} {σ : L2.St} {s : Ev} {n len : Nat} {ds : List D} {vs : List V} {xq : XQ} {Q : VK} (S : SR K aS O A0 H0 σ H s n) (L : LX K E aS A0 H0 xq) (hl : ds.length = len) (r : RepL K aS H (AV aS A0 O σ) ds vs)
    (q : sp.run ds n (fun d n' => ∀ v H', KpS aS H H' → StA K aS H' n' → Rep K aS H' (AV aS A0 O σ) d v → Q v H') xq) : lift K len sp vs H Q E := by
  have eA : AV aS (AV aS A0 O σ) [] [] = AV aS A0 O σ := AV.of AV.st
  refine ⟨aS, AV aS A0 O σ, ds, n, xq, hl, by rw [eA]; exact r, S.st, S.cn.dom, L.call S, ?_⟩
  rw [eA]
  exact q
theorem ve_call (tk : TK X E) (F : FnOk X.prog X.w X.K X.mg X.base (CX X.prog X.w) k f fd ps (lift X.K ps.length sp)) (hr : Room k X.A) (hg : Gl X x) (hm : X.mg x = some (.ref f)) (hk : PySem.W.keepIn X.K (.ref f) = true) (hb : Binds X.K fd ps us) (hd : Vals dvs us)
    (hdd : ∀ aS H A, RepL X.K aS H A dds dvs) (ha : VA Rep X E O (e :: es) ml) (hdb : (x == ("__debug__" : Str)) = false := by decide)
    (he : starEach (e :: es) X.env = (false, eval e X.env) :: starEach es X.env := by rfl) (hpl : (backTo pos (starEach es X.env)).any (·.1) = false := by rfl) : VE X E O (.Call (.Name x p) (e :: es) [] pos) (eCall ps.length sp dds ml) := by
  obtain ⟨mn, t, pa, ft⟩ := ha
  refine ⟨mn_call mn, _, pe_call F hr hg hm hk  hb hd (passes_call tk fun _ _ _ _ h => h) pa hdb he hpl, fun aS A0 H0 σ H s n xq Q S L hm => ?_⟩
  refine ft aS A0 H0 σ H s n xq _ S L (mn _ _ _ _ _ (fun ds n1 q vs H1 k1 st1 r1 => ?_) hm)
  exact (S.step k1 st1).call L q.1 ((RL.repL r1).app (hdd aS H1 _)) (sp.mn _ _ _ _ _ (fun d n' w v H' kp st r => w v H' (k1.trans kp) st r) q.2)
/-- a method of an instance of C -/
def eMeth (C : Str) (mn : Str) (len : Nat) (sp : FSp) (dds : List D) (mo : EM D) (m : EM (List D)) : EM D := fun xq s n Q => mo xq s n fun d n1 => ∃ fs, d = .obj C fs ∧ fs.lookup mn = none ∧ m xq s n1 fun ds n2 => (d :: (ds ++ dds)).length = len ∧ sp.run (d :: (ds ++ dds)) n2 Q xq
theorem repF_look {K : PySem.W.Frag} {aS : Addr} {H : Hp} {A : AS} (g : Str) : ∀ {fs : List (Str × D)} {ys : List (Str × V)}, RepF K aS H A fs ys → (fs.lookup g = none ∧ ys.lookup g = none) ∨ ∃ d v, fs.lookup g = some d ∧ ys.lookup g = some v ∧ Rep K aS H A d v
  | [], ys, h => by
    rw [RepF] at h
    subst h
    exact .inl ⟨rfl, rfl⟩
  | (k, d) :: fs, ys, h => by
    rw [RepF] at h
    obtain ⟨v, vr, e, r, q⟩ := h
    subst e
    rw [List.lookup_cons, List.lookup_cons]
    cases hb : g == k with
    | true => exact .inr ⟨d, v, rfl, rfl, r⟩
    | false => exact repF_look g q
theorem mn_meth {mn : Str} {len : Nat} (h1 : Mn mo) (h : Mn ml) : Mn (eMeth C mn len sp dds mo ml) := fun xq s n Q Q' hq w => h1 _ _ _ _ _ (fun d n1 ⟨fs, e1, e2, w⟩ => ⟨fs, e1, e2, h _ _ _ _ _ (fun ds n2 w => ⟨w.1, sp.mn _ _ _ _ _ hq w.2⟩) w⟩) w
theorem ve_meth {mn : Str} {pe : Expr → TE → Prop} (ho : VE X E O o mo) (ha : VA Rep X E O es ml)
    (hp : ∀ {to : TE} {t : TA}, PE X o to → PA X es t → PE X e (tMeth (He.ga X.K C) mn (lift X.K ps.length sp) dvs E to t)) (hdd : ∀ aS H A, RepL X.K aS H A dds dvs) : VE X E O e (eMeth C mn ps.length sp dds mo ml) := by
  obtain ⟨mn1, t1, p1, f1⟩ := ho
  obtain ⟨mn2, t2, p2, f2⟩ := ha
  refine ⟨mn_meth mn1 mn2, _, hp p1 p2, fun aS A0 H0 σ H s n xq Q S L hm => ?_⟩
  refine f1 aS A0 H0 σ H s n xq _ S L (mn1 _ _ _ _ _ (fun d n1 q v H1 k1 st1 r1 => ?_) hm)
  obtain ⟨fs, ed, hl, q⟩ := q
  subst ed
  have r1' := r1
  rw [Rep] at r1'
  obtain ⟨a, dx, ys, ev, na, hq, rf⟩ := r1'
  have hy : ys.lookup mn = none := by
    rcases repF_look mn rf with z | ⟨_, _, z, _⟩
    · exact z.2
    · rw [hl] at z; cases z
  refine ⟨a, dx, ys, ev, hq, hy, f2 aS A0 H0 σ H1 s n1 xq _ (S.step k1 st1) L (mn2 _ _ _ _ _ (fun ds n2 q2 vs H2 k2 st2 r2 => ?_) q)⟩
  have kk := k1.trans k2
  exact (S.step kk st2).call L q2.1 (RepL.cons (r1.kp k2 st1 AV.st) ((RL.repL r2).app (hdd aS H2 _))) (sp.mn _ _ _ _ _ (fun d n' w v H' kp st r => w v H' (kk.trans kp) st r) q2.2)
/-! ### fields -/
def eFld (C : Str) (g : Str) (m : EM D) : EM D := fun xq s n Q => m xq s n fun d n1 => ∃ fs v, d = .obj C fs ∧ fs.lookup g = some v ∧ Q v n1
theorem ve_fld {g : Str} (cl : Cls X.K (He.ga X.K C)) (na : NoAttr X.K (He.ga X.K C) g) (h : VB X E O o mo) (hb : attributeBase o g X.env (eval o X.env) = eval o X.env := by rfl) : VE X E O (.Attribute o g pos) (eFld C g mo) := by
  obtain ⟨mn, t, p, f⟩ := h
  refine ⟨fun xq s n Q Q' hq w => mn _ _ _ _ _ (fun d n1 ⟨fs, v, e1, e2, q⟩ => ⟨fs, v, e1, e2, hq _ _ q⟩) w, _, pe_fld p hb, fun aS A0 H0 σ H s n xq Q S L hm => ?_⟩
  refine f aS A0 H0 σ H s n xq _ S L (mn _ _ _ _ _ (fun d n1 q v H1 k1 st1 r1 => ?_) hm)
  obtain ⟨fs, v', ed, hl, q⟩ := q
  subst ed
  obtain ⟨a, dx, ys, ev, na', hq, rf⟩ := r1
  rcases repF_look g rf with z | ⟨d, u, z1, z2, z3⟩
  · rw [hl] at z; cases z.1
  · rw [hl] at z1
    cases z1
    exact ⟨a, He.ga X.K C, dx, ys, u, ev, hq, cl, na, z2, q u H1 k1 st1 z3⟩
def putFD (f : Str) (v : D) : List (Str × D) → List (Str × D)
  | [] => [(f, v)]
  | (g, x) :: r => if g = f then (g, v) :: r else (g, x) :: putFD f v r
theorem repF_put {K : PySem.W.Frag} {aS : Addr} {H : Hp} {A : AS} {g : Str} {d : D} {v : V} (r : Rep K aS H A d v) : ∀ {fs : List (Str × D)} {ys : List (Str × V)}, RepF K aS H A fs ys → RepF K aS H A (putFD g d fs) (putF g v ys)
  | [], ys, h => by
    rw [RepF] at h
    subst h
    rw [putFD, putF, RepF]
    exact ⟨v, [], rfl, r, by rw [RepF]⟩
  | (k, d') :: fs, ys, h => by
    rw [RepF] at h
    obtain ⟨v', vr, e, r', q⟩ := h
    subst e
    rw [putFD, putF]
    split
    · rw [RepF]
      exact ⟨v, vr, rfl, r, q⟩
    · rw [RepF]
      exact ⟨v', _, rfl, r', repF_put r q⟩
theorem repF_length {K : PySem.W.Frag} {aS : Addr} {H : Hp} {A : AS} : ∀ {fs : List (Str × D)} {ys : List (Str × V)}, RepF K aS H A fs ys → ys.length = fs.length
  | [], ys, h => by
    rw [RepF] at h
    rw [h]
    rfl
  | (k, d') :: fs, ys, h => by
    rw [RepF] at h
    obtain ⟨v', vr, e, r', q⟩ := h
    rw [e, List.length_cons, List.length_cons, repF_length q]
def sFldD (i : Nat) (C : Str) (g : Str) (m : EM D) : SM := fun xq de s n => m xq s n fun d n' => ∃ fs, s[i]? = some (some (.obj C fs)) ∧ fs.length < 1000 ∧ de.nx (s.set i (some (.obj C (putFD g d fs)))) n'
/-- self.f = e, self owned -/
theorem vs_fld {i : Nat} {g y : Str} {m : EM D} {OL : List Nat} {p2 : Pos} (hi : i ∈ O) (hN : X.N[i]? = some y) (hv : Vis X.env.scope y) (cl : Cls X.K (He.ga X.K C)) (na : NoAttr X.K (He.ga X.K C) g) (h : VE X E O e m) (hs : swapsWith e (some (.Attribute (.Name y p2) g p)) pos.line X.env = pure false := by rfl)
    (hd : (y == ("__debug__" : Str)) = false := by decide) (hcd : (y == ("__classdict__" : Str)) = false := by decide) : VS X E O O OL (.Assign [.Attribute (.Name y p2) g p] e pos) (sFldD i C g m) := by
  obtain ⟨mn, t, pe, f⟩ := h
  refine ⟨_, ps_fld (pe_var hN hv hd hcd) pe hs, fun aS A0 H0 σ H s n xq de De S L k h => f aS A0 H0 σ H s n xq _ S L (mn _ _ _ _ _ (fun d n' q v H' kp st r => ?_) h)⟩
  obtain ⟨fs, e, hl, q⟩ := q
  have S' := S.step kp st
  obtain ⟨d0, a, e1, e2, e3, e4, e5, e6⟩ := S'.ow i hi
  rw [e] at e1
  cases e1
  obtain ⟨dx, ys, ha, rf⟩ := e6
  have hA : AV aS A0 O σ a := .inr (.inr ⟨i, hi, e2⟩)
  refine ⟨_, e2, a, He.ga X.K C, dx, ys, rfl, ha, cl, na, by rw [repF_length rf]; exact hl, k.nx _ _ _ n' (S'.mut (d := .obj C (putFD g d fs)) hi e2 ha (fun _ z => nomatch z) (fun _ _ z => nomatch z) ⟨dx, _, upd_same, ?_⟩) q⟩
  exact RepF.mono (sub_poke hA ha fun _ z => nomatch z) _ _ (repF_put r rf)
end
/-! ### making an instance -/
def liftI (K : PySem.W.Frag) (C : Str) (len : Nat) (sp : FSp) : Sp := fun vs H Q E => ∃ (aS : Addr) (A0 : AS) (ds : List D) (n : Nat) (xq : XQ) (x dx : Addr) (ws : List V), vs = .ref x :: ws ∧ ds.length + 1 = len ∧ H x = some (.ins (He.ga K C) dx []) ∧ ¬ A0 x ∧ x ≠ aS ∧
  RepL K aS H (fun b => AV aS A0 [] [] b ∨ b = x) ds ws ∧ StA K aS H n ∧ (∀ a, A0 a → ∃ u, H a = some u) ∧ LX K E aS A0 (fun b => if b = x then none else H b) xq ∧
  sp.run ds n (fun d n' => ∃ fs, d = .obj C fs ∧ ∀ H' dx' ys, (∀ b u, H b = some u → b ≠ aS → b ≠ x → Kp1 u (H' b)) → StA K aS H' n' → H' x = some (.ins (He.ga K C) dx' ys) → RepF K aS H' (fun b => AV aS A0 [] [] b ∨ b = x) fs ys → Q .non H') xq
section
variable {P : Program} {w : World} {K : PySem.W.Frag} {mg : Str → Option Value} {base : Heap} {x qual : Str} {params : Arguments} {body : List Stmt} {scope : Scope} {dvs : List V} {kws : List (Str × V)} {f : Addr} {C : Str} {fd : FuncData}
theorem SR.startI {aS a dx : Addr} {A0 : AS} {H : Hp} {N : List Str} {ds : List D} {ws : List V} {n : Nat} (hx : H a = some (.ins (He.ga K C) dx [])) (na : ¬ A0 a) (ns : a ≠ aS) (r : RepL K aS H (fun b => AV aS A0 [] [] b ∨ b = a) ds ws) (st : StA K aS H n) (av : ∀ a, A0 a → ∃ u, H a = some u) :
    SR K aS [0] ⟨A0, some a⟩ (fun b => if b = a then none else H b) (L2.start N (.ref a :: ws)) H (startD N (.obj C [] :: ds)) n ∧ AV aS A0 [0] (L2.start N (.ref a :: ws)) = fun b => AV aS A0 [] [] b ∨ b = a := by
  have e0 : (L2.start N (.ref a :: ws))[0]? = some (some (.ref a)) := rfl
  have eA : AV aS A0 [0] (L2.start N (.ref a :: ws)) = fun b => AV aS A0 [] [] b ∨ b = a := by
    funext b
    refine propext ⟨fun z => ?_, fun z => ?_⟩
    · rcases z with z | z | ⟨j, hj, e⟩
      · exact .inl (.inl z)
      · exact .inl (.inr (.inl z))
      · have hj : j = 0 := by simpa using hj
        subst hj
        rw [e0] at e
        cases e
        exact .inr rfl
    · rcases z with z | z
      · exact av_nil b z
      · exact .inr (.inr ⟨0, by simp, by rw [z]; exact e0⟩)
  refine ⟨⟨?_, fun i d e hi => ?_, fun i hi => ?_, fun i j b hi hj _ _ => ?_, fun b u e _ => ?_, st, av, fun _ b e => ?_⟩, eA⟩
  · unfold L2.start startD
    rw [List.length_append, List.length_append, List.length_map, List.length_map, List.length_replicate, List.length_replicate, List.length_cons, List.length_cons, r.length]
  · rw [eA]
    cases i with
    | zero => exact (hi (by simp)).elim
    | succ i =>
      have e2 := start_get e
      obtain ⟨v, ev, rv⟩ := r.get (i := i) (d := d) (by simpa using e2)
      exact ⟨v, get_start (by simpa using ev), rv⟩
  · have hi : i = 0 := by simpa using hi
    subst hi
    refine ⟨.obj C [], a, rfl, rfl, if_pos rfl, na, ns, dx, [], hx, by rw [RepF]⟩
  · have hi : i = 0 := by simpa using hi
    have hj : j = 0 := by simpa using hj
    rw [hi, hj]
  · by_cases z : b = a
    · rw [if_pos z] at e; cases e
    · rw [if_neg z] at e; exact .of e
  · cases e
    rfl
theorem dfnI {N ps : List Str} {k : Nat} {sp : FSp} {m : SM} {O' : List Nat} (F : FunD K x qual params body scope dvs kws f fd) (Sc : FnScope N ps scope) (h0 : 0 ∈ O')
    (hb : ∀ (cdv : Value) (A : Around) (outer : List Env) (s : Shared) (H : Hp) (E : XK), Room k (A.deeper (envOfC qual scope s.heap.objs.size f cdv)) → VSs (cxOf (CX P w) P w K mg base N qual scope f cdv A outer s H E) (EU H E) [0] O' [] body m)
    (hm : ∀ ds n Q xq, ds.length + 1 = ps.length → sp.run ds n Q xq → m xq { nx := fun s' n' => ∃ fs, s'[0]? = some (some (.obj C fs)) ∧ Q (.obj C fs) n', rt := fun _ _ => False } (startD N (.obj C [] :: ds)) n) : FnOk P w K mg base (CX P w) (k + 1) f fd ps (liftI K C ps.length sp) := by
  refine F.ok Sc (fun vs H Q E h => ?_) (fun cdv A outer s H vs Q E hr h => ?_)
  · obtain ⟨aS, A0, ds, n, xq, a, dx, ws, ev, hl, hx, na, ns, r, _⟩ := h
    rw [ev, List.length_cons, r.length, hl]
  · obtain ⟨aS, A0, ds, n, xq, a, dx, ws, ev, hl, hx, na, ns, r, st, av, L, q⟩ := h
    subst ev
    obtain ⟨t, p, ft⟩ := hb cdv A outer s H E hr
    obtain ⟨S, eA⟩ := SR.startI (N := N) hx na ns r st av
    refine ⟨t, p, ft aS ⟨A0, some a⟩ _ _ H _ n xq _ _ S L.eu ?_ (hm ds n _ xq hl q)⟩
    refine ⟨fun σ' H' s' n' S' q' => ?_, fun v H' d n' kp st' r' q' => q'.elim, fun _ _ _ _ _ z => z.elim, fun _ _ _ _ _ z => z.elim⟩
    obtain ⟨fs, e, fs', e', q'⟩ := q'
    cases e'
    obtain ⟨d1, a1, z1, z2, z3, z4, z5, z6⟩ := S'.ow 0 h0
    rw [e] at z1
    cases z1
    have ea := S'.pn h0 a rfl
    rw [z2] at ea
    cases ea
    obtain ⟨dx', ys, hx', rf⟩ := z6
    refine q' H' dx' ys (fun b u hb nb nx => S'.fr b u ?_ nb) S'.st hx' (RepF.mono (sub_le fun b z => ?_) _ _ rf)
    · rw [if_neg nx]
      exact hb
    · rcases z with z | z
      · exact av_nil b z
      · exact .inr (.inr ⟨0, h0, by rw [z]; exact z2⟩)
end
def eMake (len : Nat) (sp : FSp) (dds : List D) (m : EM (List D)) : EM D := fun xq s n Q => m xq s n fun ds n1 => (ds ++ dds).length + 1 = len ∧ sp.run (ds ++ dds) n1 (fun d n2 => (∃ C fs, d = .obj C fs) ∧ Q d n2) xq
section
variable {X : Cx} {E : XK} {O : List Nat} {e : Expr} {es : List Expr} {ml : EM (List D)} {pos p : Pos} {x : Str} {f : Addr} {C : Str} {fd : FuncData} {ps : List Str} {k : Nat} {sp : FSp} {dds : List D} {dvs : List V} {us : List Value}
theorem SR.make {K : PySem.W.Frag} {aS a dx : Addr} {A0 : A0T} {H0 H : Hp} {σ : L2.St} {s : Ev} {n len : Nat} {ds : List D} {vs : List V} {xq : XQ} {Q : VK} (S : SR K aS O A0 H0 σ H s n) (L : LX K E aS A0 H0 xq) (hl : ds.length + 1 = len) (r : RepL K aS H (AV aS A0 O σ) ds vs) (ha : H a = none) (hdx : H dx = none) (hne : dx ≠ a)
    (q : sp.run ds n (fun d n' => ∃ fs, d = .obj C fs ∧ ∀ H', KpS aS H H' → StA K aS H' n' → Own K aS H' (fun b => AV aS A0 O σ b ∨ b = a) a d → Q .non H') xq) : liftI K C len sp (.ref a :: vs) (upd (upd H dx (.own a)) a (.ins (He.ga K C) dx [])) Q E := by
  have eA : AV aS (AV aS A0 O σ) [] [] = AV aS A0 O σ := AV.of AV.st
  have ha1 : upd H dx (.own a) a = none := by rw [upd_ne (Ne.symm hne)]; exact ha
  have na : a ≠ aS := fun z => S.new ha (.inr (.inl z))
  have st1 : StA K aS (upd H dx (.own a)) n := S.st.upd hdx
  have r1 : RepL K aS (upd H dx (.own a)) (AV aS A0 O σ) ds vs := r.kp (KpS.upd hdx) S.st AV.st
  have up : ∀ b u, H b = some u → upd (upd H dx (.own a)) a (.ins (He.ga K C) dx []) b = some u := fun b u e => by rw [upd_ne (ne_of_none e ha), upd_ne (ne_of_none e hdx)]; exact e
  refine ⟨aS, AV aS A0 O σ, ds, n, xq, a, dx, vs, rfl, hl, upd_same, S.new ha, na, ?_, st1.upd ha1, fun b hb => ?_, LX.base (L.call S) (fun b u e _ => ?_), sp.mn _ _ _ _ _ (fun d n' w => ?_) q⟩
  · rw [eA]
    exact RepL.mono (sub_new ha1) _ _ r1
  · obtain ⟨u, e⟩ := S.cn.dom b hb
    exact ⟨u, up _ _ e⟩
  · refine .of ?_
    show (if b = a then none else upd (upd H dx (.own a)) a (.ins (He.ga K C) dx []) b) = some u
    rw [if_neg (ne_of_none e ha)]
    exact up b u e
  · obtain ⟨fs, ed, w⟩ := w
    subst ed
    refine ⟨fs, rfl, fun H' dx' ys kp st hx rf => w H' (fun b u e nb => kp b u (up b u e) nb (ne_of_none e ha)) st ⟨dx', ys, hx, ?_⟩⟩
    rw [eA] at rf
    exact rf
theorem vf_make (tk : TK X E) (M : Mk X.K (He.ga X.K C) f) (F : FnOk X.prog X.w X.K X.mg X.base (CX X.prog X.w) k f fd ps (liftI X.K C ps.length sp)) (hr : Room (k + 1) X.A) (hg : Gl X x) (hm : X.mg x = some (.ref (He.ga X.K C))) (hb : Binds X.K fd ps us) (hd : Vals dvs us)
    (hdd : ∀ aS H A, RepL X.K aS H A dds dvs) (hsp : ∀ ds n Q xq, sp.run ds n Q xq → sp.run ds n (fun d n' => (∃ fs, d = .obj C fs) ∧ Q d n') xq) (ha : VA Rep X E O (e :: es) ml) (hdb : (x == ("__debug__" : Str)) = false := by decide)
    (he : starEach (e :: es) X.env = (false, eval e X.env) :: starEach es X.env := by rfl) (hpl : (backTo pos (starEach es X.env)).any (·.1) = false := by rfl) : VF X E O (.Call (.Name x p) (e :: es) [] pos) (eMake ps.length sp dds ml) := by
  obtain ⟨mn, t, pa, ft⟩ := ha
  refine ⟨fun xq s n Q Q' hq w => mn _ _ _ _ _ (fun ds n1 w => ⟨w.1, sp.mn _ _ _ _ _ (fun d n2 w => ⟨w.1, hq _ _ w.2⟩) w.2⟩) w, _, pe_make M F hr hg hm  hb hd (passes_call tk fun _ _ _ _ h => h) pa hdb he hpl, fun aS A0 H0 σ H s n xq Q S L hm => ?_⟩
  refine ft aS A0 H0 σ H s n xq _ S L (mn _ _ _ _ _ (fun ds n1 q vs H1 k1 st1 r1 => ?_) hm)
  intro a dx ha hdx hne
  have S1 := S.step k1 st1
  refine S1.make L q.1 ((RL.repL r1).app (hdd aS H1 _)) ha hdx hne (sp.mn _ _ _ _ _ (fun d n' w => ?_) (hsp _ _ _ _ q.2))
  obtain ⟨⟨fs, ed⟩, _, w⟩ := w
  refine ⟨fs, ed, fun H' kp st o => ⟨rfl, w a H' ?_ (k1.trans kp) st o⟩⟩
  refine Option.eq_none_iff_forall_ne_some.mpr fun u z => ?_
  exact (KpS.gone k1 ha z (fun y => S1.new ha (.inr (.inl y)))).elim
end
end DL
namespace DL
open PySem PySem.Spec PyProof.Rows L2
variable [TabC]
section
variable {K : PySem.W.Frag} {aS a p : Addr} {H H' H0 : Hp} {A0 : A0T} {O : List Nat} {σ : L2.St} {s : Ev} {n n' i : Nat} {d : D}
theorem AV.own (hi : i ∉ O) (hl : i < σ.length) : AV aS A0 (i :: O) (σ.set i (some (.ref a))) = AV aS (fun b => A0 b ∨ b = a) O σ := by
  rw [AV.plus]
  funext b
  refine propext ⟨fun z => ?_, fun z => ?_⟩
  · rcases z with z | z | ⟨j, hj, e⟩
    · exact .inl (.inl z)
    · exact .inl (.inr (.inl z))
    · by_cases hji : j = i
      · subst hji
        rw [List.getElem?_set_self hl] at e
        cases e
        exact .inr rfl
      · rw [set_other hji] at e
        exact .inl (.inr (.inr ⟨j, (List.mem_cons.mp hj).resolve_left hji, e⟩))
  · rcases z with (z | z | ⟨j, hj, e⟩) | z
    · exact .inl z
    · exact .inr (.inl z)
    · refine .inr (.inr ⟨j, List.mem_cons_of_mem _ hj, ?_⟩)
      rw [set_other (show j ≠ i from fun z => hi (z ▸ hj))]
      exact e
    · refine .inr (.inr ⟨i, List.mem_cons_self, ?_⟩)
      rw [z]
      exact List.getElem?_set_self hl
theorem SR.sub (S : SR K aS O A0 H0 σ H s n) (ha : H a = none) (k : KpS aS H H') : Sub K H H' (AV aS A0 O σ) (fun b => AV aS A0 O σ b ∨ b = a) := by
  obtain ⟨ys, hs⟩ := S.st.lst
  have ne : ∀ b, ¬ AV aS A0 O σ b → b ≠ aS := fun b h e => h (.inr (.inl e))
  refine ⟨fun b xs h q => ⟨fun z => z.elim h (ne_of_none q ha), k _ _ q (ne b h)⟩, fun b xs q => TpA.kp k hs q, fun b ys h q => ⟨fun z => z.elim h ?_, Rd.kp k (ne b h) q⟩, fun b ys h q => ⟨fun z => z.elim h ?_, RdM.kp k (ne b h) q⟩, fun b C dx ys h q => ⟨fun z => z.elim h (ne_of_none q ha), k _ _ q (ne b h)⟩, fun b u hu h q => ⟨fun z => z.elim h (ne_of_none q ha), k.xo hu q (ne b h)⟩⟩
  all_goals
    rcases q with q | ⟨_, q⟩
    · exact ne_of_none q ha
    · exact ne_of_none q ha
/-- behind an expression that made p, p kept for oneself -/
theorem SR.stepA (S : SR K aS O A0 H0 σ H s n) (k : KpS aS H H') (t : StA K aS H' n') (hp : H p = none) (ho : ∃ o, H' p = some o) : SR K aS O ⟨fun b => A0 b ∨ b = p, A0.z⟩ H0 σ H' s n' := by
  refine ⟨S.len, fun j d e hj => ?_, fun j hj => ?_, S.ds, S.fr.trans k, t, fun b hb => ?_, S.pn⟩
  · rw [AV.plus]
    obtain ⟨v, ev, r⟩ := S.sh j d e hj
    exact ⟨v, ev, Rep.mono (S.sub hp k) _ _ r⟩
  · rw [AV.plus]
    obtain ⟨d, b, e1, e2, e3, e4, e5, e6⟩ := S.ow j hj
    refine ⟨d, b, e1, e2, e3, fun z => z.elim e4 fun z => S.new hp (.inr (.inr ⟨j, hj, z ▸ e2⟩)), e5, ?_⟩
    cases d with
    | lst ds => obtain ⟨xs, e, q⟩ := e6; exact ⟨xs, k _ _ e e5, RepL.mono (S.sub hp k) _ _ q⟩
    | dic ds => obtain ⟨xs, e, q⟩ := e6; exact ⟨xs, k _ _ e e5, RepK.mono (S.sub hp k) _ _ q⟩
    | dmx ds => obtain ⟨xs, e, q⟩ := e6; exact ⟨xs, k _ _ e e5, RepP.mono (S.sub hp k) _ _ q⟩
    | obj C ds => obtain ⟨dx, xs, e, q⟩ := e6; exact ⟨dx, xs, k _ _ e e5, RepF.mono (S.sub hp k) _ _ q⟩
    | _ => exact e6.elim
  · rcases hb with hb | hb
    · exact (S.step k t).av b hb
    · exact hb ▸ ho
theorem Own.there {A : AS} (h : Own K aS H A a d) : ∃ o, H a = some o := by
  cases d with
  | lst ds => obtain ⟨xs, e, q⟩ := h; exact ⟨_, e⟩
  | dic ds => obtain ⟨xs, e, q⟩ := h; exact ⟨_, e⟩
  | dmx ds => obtain ⟨xs, e, q⟩ := h; exact ⟨_, e⟩
  | obj C ds => obtain ⟨dx, xs, e, q⟩ := h; exact ⟨_, e⟩
  | _ => exact h.elim
end
section
variable {X : Cx} {E : XK} {O OL : List Nat} {a b c e : Expr} {ma mb mc m : EM D} {pos : Pos} {i j : Nat} {x y : Str}
/-! two targets -/
def sPar (i j : Nat) (ma mb : EM D) : SM := fun xq de s n => ma xq s n fun d n1 => mb xq s n1 fun d' n2 => de.nx ((s.set i (some d)).set j (some d')) n2
theorem vs_parFF {px py pt : Pos} {kt k2 pt2} (hi : i ∉ O) (hj : j ∉ O) (hi0 : i ≠ 0) (hj0 : j ≠ 0) (hc : X.calm = true) (hN : X.N.Nodup) (hNi : X.N[i]? = some x) (hNj : X.N[j]? = some y) (hij : i ≠ j) (hx : X.env.scope.names.lookup x = some .local) (hy : X.env.scope.names.lookup y = some .local)
    (ha : VF X E O a ma) (hb : VF X E O b mb) (hw : swappedStores [.Tuple [.Name x px, .Name y py] kt pt] (.Tuple [a, b] k2 pt2) X.env = pure (some [x, y]))
    (hs : swapsWithSole [.Tuple [.Name x px, .Name y py] kt pt] (.Tuple [a, b] k2 pt2) pos.line X.env = pure false := by rfl) (hs1 : starEach [a, b] X.env = (false, eval a X.env) :: starEach [b] X.env := by rfl) (hs2 : starEach [b] X.env = (false, eval b X.env) :: starEach [] X.env := by rfl) :
    VS X E O (j :: i :: O) OL (.Assign [.Tuple [.Name x px, .Name y py] kt pt] (.Tuple [a, b] k2 pt2) pos) (fun xq de s n => i < s.length ∧ j < s.length ∧ sPar i j ma mb (fun _ _ => False) de s n) := by
  obtain ⟨mna, ta, pa, fa⟩ := ha
  obtain ⟨mnb, tb, pb, fb⟩ := hb
  refine ⟨_, ps_par hc hN hNi hNj hij hx hy (pa_cons pa (pa_cons pb pa_nil hs2) hs1) hw hs, fun aS A0 H0 σ H s n xq de De S L k h => ?_⟩
  obtain ⟨hl1, hl2, h⟩ := h
  have LF : ∀ A1, LX X.K E aS A1 H0 (fun _ _ => False) := fun _ _ _ _ _ _ _ _ _ z => z.elim
  refine fa aS A0 H0 σ H s n _ _ S (LF _) (mna _ _ _ _ _ (fun d1 n1 q p1 H1 z1 k1 st1 o1 => ?_) h)
  have S1 := S.stepA k1 st1 z1 o1.there
  refine fb aS _ H0 σ H1 s n1 _ _ S1 (LF _) (mnb _ _ _ _ _ (fun d2 n2 q2 p2 H2 z2 k2 st2 o2 => ?_) q)
  have Sa := S.own hi hi0 hl1 z1 k1 st1 o1
  have hlσ : i < σ.length := by rw [S.len]; exact hl1
  refine ⟨_, _, rfl, k.nx _ _ _ _ (Sa.own (fun z => (List.mem_cons.mp z).elim (fun z => hij z.symm) hj) hj0 (by rw [List.length_set]; exact hl2) z2 k2 st2 ?_) q2⟩
  rw [AV.own hi hlσ]
  exact o2
/-! f.append(xs.pop(e)) -/
theorem RepL.erase {K : PySem.W.Frag} {aS : Addr} {H : Hp} {A : AS} : ∀ {ds : List D} {vs : List V} (k : Nat), RepL K aS H A ds vs → RepL K aS H A (ds.eraseIdx k) (vs.eraseIdx k)
  | [], _, _, h => by rw [RepL] at h; rw [h]; exact RepL.nil
  | d :: ds, vs, 0, h => by
    rw [RepL] at h
    obtain ⟨v, vr, e, r, q⟩ := h
    rw [e]
    exact q
  | d :: ds, vs, k + 1, h => by
    rw [RepL] at h
    obtain ⟨v, vr, e, r, q⟩ := h
    rw [e]
    exact RepL.cons r (RepL.erase k q)
theorem seq_nat {k n : Nat} (h : k < n) : seqIndex? (k : Int) n = some k := by
  have e : ixN n (k : Int) = some k := by
    unfold ixN
    rw [if_pos (by omega), if_pos (by omega)]
    simp
  exact (ixN_seq e).1
theorem vs_appPop {p1 p2 ap cp ap2 cp2 : Pos} (hij : j ≠ i) (hi : i ∈ O) (hj : j ∈ O) (hNi : X.N[i]? = some x) (hvi : Vis X.env.scope x) (hNj : X.N[j]? = some y) (hvj : Vis X.env.scope y) (h : VE X E O e m)
    (hpe : ∀ {to tp : TE} {t : TA}, PE X (.Name y p1) to → PE X (.Name x p2) tp → PA X [e] t → PE X (.Call (.Attribute (.Name y p1) "append" ap) [.Call (.Attribute (.Name x p2) "pop" ap2) [e] [] cp2] [] cp) (tBM X.K "list" rAppend to (tCons (tBM X.K "list" rPopAt tp t) tNil)) := by
      intro to tp t h1 h2 h3; exact pe_bm PySem.F.plainAttrs_list PySem.F.slot_list_append PySem.F.type_list_append mt_append h1 (pa_cons (pe_bm PySem.F.plainAttrs_list PySem.F.slot_list_pop PySem.F.type_list_pop mt_popAt h2 h3) pa_nil))
    (hs : swapsWith (.Call (.Attribute (.Name y p1) "append" ap) [.Call (.Attribute (.Name x p2) "pop" ap2) [e] [] cp2] [] cp) none pos.line X.env = pure false := by rfl) (hst : starEach [e] X.env = (false, eval e X.env) :: starEach [] X.env := by rfl)
    (hd : (x == ("__debug__" : Str)) = false := by decide) (hcd : (x == ("__classdict__" : Str)) = false := by decide) (hd2 : (y == ("__debug__" : Str)) = false := by decide) (hcd2 : (y == ("__classdict__" : Str)) = false := by decide) :
    VS X E O O OL (.Expr (.Call (.Attribute (.Name y p1) "append" ap) [.Call (.Attribute (.Name x p2) "pop" ap2) [e] [] cp2] [] cp) pos) (sAppPop j i m) := by
  obtain ⟨mn, t, p, f⟩ := h
  refine ⟨_, ps_expr (hpe (pe_var hNj hvj hd2 hcd2) (pe_var hNi hvi hd hcd) (pa_cons p pa_nil hst)) hs, fun aS A0 H0 σ H s n xq de De S L k h => ?_⟩
  obtain ⟨fs, ds, ef, es, h⟩ := h
  obtain ⟨af, xf, z1, z2, z3, z4⟩ := own_lst S hj ef
  obtain ⟨a, xs, y1, y2, y3, y4⟩ := own_lst S hi es
  refine ⟨_, z1, .inl ⟨rfl, _, SqL.of z3⟩, _, y1, .inl ⟨rfl, _, SqL.of y3⟩, f aS A0 H0 σ H s n xq _ S L (mn _ _ _ _ _ (fun d n' q v H' kp st r => ?_) h)⟩
  obtain ⟨kk, d', ed, hd', hl, hlf, q⟩ := q
  subst ed
  simp only [Rep] at r
  subst r
  have S' := S.step kp st
  have y3' := kp _ _ y3 y2
  have y4' := y4.kp kp S.st AV.st
  have z3' := kp _ _ z3 z2
  have z4' := z4.kp kp S.st AV.st
  obtain ⟨v, hv, rv⟩ := y4'.get hd'
  have hk : kk < xs.length := (List.getElem?_eq_some_iff.mp hv).1
  have hk2 : kk < ds.length := (List.getElem?_eq_some_iff.mp hd').1
  have naf : af ≠ a := fun z => hij (S.ds j i a hj hi (z ▸ z1) y1)
  refine ⟨a, xs, (kk : Int), kk, v, rfl, rfl, y3', by omega, by unfold LIM at hl; omega, seq_nat hk, hv, ?_⟩
  have S2 := S'.mutL hi y1 y3' (y4'.erase kk)
  have hA : AV aS A0 O σ a := .inr (.inr ⟨i, hi, y1⟩)
  have sub := sub_poke (K := X.K) (o' := .lst (xs.eraseIdx kk)) hA y3' (fun _ z => nomatch z)
  have z3'' : upd H' a (.lst (xs.eraseIdx kk)) af = some (.lst xf) := by rw [upd_ne naf]; exact z3'
  refine ⟨af, xf, v, rfl, rfl, z3'', by rw [z4.length]; exact lim_lt hlf, k.nx _ _ _ _ (S2.mutL hj z1 z3'' ?_) q⟩
  exact (RepL.mono sub _ _ z4').app (RepL.cons (Rep.mono sub _ _ rv) RepL.nil)
/-! chains of two comparisons -/
def eChainT (f g : D → D → Option D) (ma mb mc : EM D) : EM Bool := fun xq s n Q => ma xq s n fun x n1 => mb xq s n1 fun y n2 => ∃ k, f x y = some (.bl k) ∧ if k = true then mc xq s n2 fun z n3 => ∃ b, g y z = some (.bl b) ∧ Q b n3 else Q false n2
end
end DL
namespace DL
open PySem PySem.Spec PyProof.Rows L2
variable [TabC]
/-! ### chains, is None, minus -/
section
variable {X : Cx} {E : XK} {O OL : List Nat} {a b c e : Expr} {ma mb mc m : EM D} {pos : Pos}
theorem mn_chainT {f g : D → D → Option D} (h1 : Mn ma) (h2 : Mn mb) (h3 : Mn mc) : Mn (eChainT f g ma mb mc) := fun xq s n Q Q' hq w => h1 _ _ _ _ _ (fun d1 n1 w => h2 _ _ _ _ _ (fun d2 n2 ⟨k, e, w⟩ => ⟨k, e, by
  cases k with
  | true => exact h3 _ _ _ _ _ (fun d3 n3 ⟨d, e, q⟩ => ⟨d, e, hq _ _ q⟩) w
  | false => exact hq _ _ w⟩) w) w
theorem vt_chain {op op' : CmpOp} {f g : D → D → Option D} (h : OpD X (compareOp op) f) (h' : OpD X (compareOp op') g) (ha : VB X E O a ma) (hb : VB X E O b mb) (hc : VB X E O c mc) (hm : lastMarks [op, op'] [b, c] = false := by rfl) : VT X E O (.Compare a [op, op'] [b, c] pos) (eChainT f g ma mb mc) := by
  obtain ⟨mna, ta, pa, fa⟩ := ha
  obtain ⟨mnb, tb, pb, fb⟩ := hb
  obtain ⟨mnc, tc, pc, fc⟩ := hc
  obtain ⟨r, ho, hr⟩ := h
  obtain ⟨r', ho', hr'⟩ := h'
  refine ⟨mn_chainT mna mnb mnc, _, pt_chain ho ho' pa pb pc hm, fun aS A0 H0 σ H s n xq Q S L hm => ?_⟩
  refine fa aS A0 H0 σ H s n xq _ S L (mna _ _ _ _ _ (fun d1 n1 q v1 H1 k1 st1 r1 => ?_) hm)
  refine fb aS A0 H0 σ H1 s n1 xq _ (S.step k1 st1) L (mnb _ _ _ _ _ (fun d2 n2 q2 v2 H2 k2 st2 r2 => ?_) q)
  obtain ⟨k, e, q2⟩ := q2
  refine hr aS H2 _ n2 d1 d2 _ v1 v2 _ (S.step (k1.trans k2) st2).cn (r1.kp k2 st1 AV.st) r2 e fun v H3 k3 st3 r3 => ?_
  rw [Rep] at r3
  refine ⟨k, r3, ?_⟩
  cases k with
  | false => rw [if_neg (by decide)] at q2 ⊢; exact ⟨false, rfl, q2 H3 ((k1.trans k2).trans k3) st3⟩
  | true =>
    rw [if_pos rfl] at q2 ⊢
    refine fc aS A0 H0 σ H3 s n2 xq _ (S.step ((k1.trans k2).trans k3) st3) L (mnc _ _ _ _ _ (fun d3 n3 q3 v3 H4 k4 st4 r4 => ?_) q2)
    obtain ⟨d, e', q3⟩ := q3
    refine hr' aS H4 _ n3 d2 d3 _ v2 v3 _ (S.step (((k1.trans k2).trans k3).trans k4) st4).cn ((r2.kp k3 st2 AV.st).kp k4 st3 AV.st) r4 e' fun v H' k st r => ?_
    rw [Rep] at r
    exact ⟨d, r, q3 H' ((((k1.trans k2).trans k3).trans k4).trans k) st⟩
/-- is None -/
def noneD : D → Bool
  | .non => true
  | _ => false
def rawD : D → Bool
  | .raw _ => true
  | _ => false
def dIsN (x y : D) : Option D := match y with | .non => if rawD x = true then none else some (.bl (noneD x)) | _ => none
def eNeg (m : EM D) : EM D := fun xq s n Q => m xq s n fun d n' => ∃ i : Int, d = .int i ∧ Q (.int (-i)) n'
theorem ve_neg (h : VB X E O e m) : VE X E O (.UnaryOp .USub e pos) (eNeg m) := by
  obtain ⟨mn, t, p, f⟩ := h
  refine ⟨fun xq s n Q Q' hq w => mn _ _ _ _ _ (fun d n' ⟨i, e, q⟩ => ⟨i, e, hq _ _ q⟩) w, _, pe_un un_neg p, fun aS A0 H0 σ H s n xq Q S L hm => f aS A0 H0 σ H s n xq _ S L (mn _ _ _ _ _ (fun d n' q v H' kp st r => ?_) hm)⟩
  obtain ⟨i, e, q⟩ := q
  subst e
  exact ⟨i, repB_int r, q _ H' kp st rep_int⟩
end
/-! ### a dict that is walked is locked meanwhile -/
section
variable {K : PySem.W.Frag} {aS a b : Addr} {H H' H0 : Hp} {A : AS} {A0 : A0T} {O : List Nat} {σ σ' : L2.St} {s s' : Ev} {n n' : Nat} {ys : List (Key × V)} {o : Obj}
theorem sub_lock (hb : H b = some (.dK ys)) : Sub K H (upd H b (.frz o (.dK ys))) A A := by
  have up : ∀ c u, H c = some u → c ≠ b → upd H b (.frz o (.dK ys)) c = some u := fun c u q z => by rw [upd_ne z]; exact q
  refine ⟨fun c xs h q => ⟨h, up _ _ q fun z => ?_⟩, fun c xs q => q.elim (fun q => .inl (up _ _ q fun z => ?_)) .inr, fun c zs h q => ⟨h, ?_⟩, fun c zs h q => ⟨h, ?_⟩, fun c C dx zs h q => ⟨h, up _ _ q fun z => ?_⟩, fun c u hu h q => ⟨h, up _ _ q fun z => by rw [z, hb] at q; cases q; first | exact hu.ndK _ rfl | exact hu.nfrz _ _ rfl⟩⟩
  · rw [z, hb] at q; cases q
  · rw [z, hb] at q; cases q
  · rcases q with q | ⟨o', q⟩
    · by_cases z : c = b
      · subst z
        rw [hb] at q
        cases q
        exact .inr ⟨o, upd_same⟩
      · exact .inl (up _ _ q z)
    · exact .inr ⟨o', up _ _ q fun z => by rw [z, hb] at q; cases q⟩
  · rcases q with q | ⟨o', q⟩
    · exact .inl (up _ _ q fun z => by rw [z, hb] at q; unfold MD.MixO at q; cases q)
    · exact .inr ⟨o', up _ _ q fun z => by rw [z, hb] at q; unfold MD.MixO at q; cases q⟩
  · rw [z, hb] at q; cases q
theorem sub_unlock (hb : H b = some (.frz o (.dK ys))) : Sub K H (upd H b (.dK ys)) A A := by
  have up : ∀ c u, H c = some u → c ≠ b → upd H b (.dK ys) c = some u := fun c u q z => by rw [upd_ne z]; exact q
  refine ⟨fun c xs h q => ⟨h, up _ _ q fun z => ?_⟩, fun c xs q => q.elim (fun q => .inl (up _ _ q fun z => ?_)) .inr, fun c zs h q => ⟨h, ?_⟩, fun c zs h q => ⟨h, ?_⟩, fun c C dx zs h q => ⟨h, up _ _ q fun z => ?_⟩, fun c u hu h q => ⟨h, up _ _ q fun z => by rw [z, hb] at q; cases q; first | exact hu.ndK _ rfl | exact hu.nfrz _ _ rfl⟩⟩
  · rw [z, hb] at q; cases q
  · rw [z, hb] at q; cases q
  · rcases q with q | ⟨o', q⟩
    · exact .inl (up _ _ q fun z => by rw [z, hb] at q; cases q)
    · by_cases z : c = b
      · subst z
        rw [hb] at q
        cases q
        exact .inl upd_same
      · exact .inr ⟨o', up _ _ q z⟩
  · rcases q with q | ⟨o', q⟩
    · exact .inl (up _ _ q fun z => by rw [z, hb] at q; unfold MD.MixO at q; cases q)
    · exact .inr ⟨o', up _ _ q fun z => by rw [z, hb] at q; unfold MD.MixO at q; cases q⟩
  · rw [z, hb] at q; cases q
theorem StA.lock (st : StA K aS H n) (hb : H b = some (.dK ys)) : StA K aS (L2.upd H b (.frz o (.dK ys))) n := by
  obtain ⟨a0, cs, i, g, m, d, e, h1, ⟨ob, h2⟩, h3, h4, h5, h6, h7, h8, h9⟩ := st
  refine ⟨a0, cs, i, g, m, d, ?_, h1, ⟨ob, ?_⟩, h3, h4, h5, h6, h7, h8, tabs_poke h9 hb (fun _ z => nomatch z) (fun _ _ z => by unfold LamX.CodeO at z; cases z)⟩
  · rw [upd_ne (show aS ≠ b from fun z => by rw [z, hb] at e; cases e)]; exact e
  · rw [upd_ne (show a0 ≠ b from fun z => by rw [z, hb] at h2; cases h2)]; exact h2
theorem StA.unlock (st : StA K aS H n) (hb : H b = some (.frz o (.dK ys))) : StA K aS (L2.upd H b (.dK ys)) n := by
  obtain ⟨a0, cs, i, g, m, d, e, h1, ⟨ob, h2⟩, h3, h4, h5, h6, h7, h8, h9⟩ := st
  refine ⟨a0, cs, i, g, m, d, ?_, h1, ⟨ob, ?_⟩, h3, h4, h5, h6, h7, h8, tabs_poke h9 hb (fun _ z => nomatch z) (fun _ _ z => by unfold LamX.CodeO at z; cases z)⟩
  · rw [upd_ne (show aS ≠ b from fun z => by rw [z, hb] at e; cases e)]; exact e
  · rw [upd_ne (show a0 ≠ b from fun z => by rw [z, hb] at h2; cases h2)]; exact h2
theorem Own.mv {d : D} (S : Sub K H H' A A) (h1 : ∀ u, H a = some u → (∀ o v, u ≠ .frz o v) → H' a = some u) (r : Own K aS H A a d) : Own K aS H' A a d := by
  cases d with
  | lst ds => obtain ⟨xs, e, q⟩ := r; exact ⟨xs, h1 _ e (fun _ _ z => nomatch z), RepL.mono S _ _ q⟩
  | dic ds => obtain ⟨xs, e, q⟩ := r; exact ⟨xs, h1 _ e (fun _ _ z => nomatch z), RepK.mono S _ _ q⟩
  | dmx ds => obtain ⟨xs, e, q⟩ := r; exact ⟨xs, h1 _ e (fun _ _ z => by unfold MD.MixO at z; cases z), RepP.mono S _ _ q⟩
  | obj C ds => obtain ⟨dx, xs, e, q⟩ := r; exact ⟨dx, xs, h1 _ e (fun _ _ z => nomatch z), RepF.mono S _ _ q⟩
  | _ => exact r
theorem SR.lock (S : SR K aS O A0 H0 σ H s n) (hn : ¬ AV aS A0 O σ b) (hb : H b = some (.dK ys)) : SR K aS O A0 (bare O σ (upd H b (.frz o (.dK ys)))) σ (upd H b (.frz o (.dK ys))) s n where
  len := S.len
  sh := fun i d h1 h2 => let ⟨v, e, r⟩ := S.sh i d h1 h2; ⟨v, e, Rep.mono (sub_lock hb) _ _ r⟩
  ow := fun i h => by
    obtain ⟨d, a, e1, e2, e3, e4, e5, e6⟩ := S.ow i h
    refine ⟨d, a, e1, e2, bare_own ⟨i, h, e2⟩, e4, e5, e6.mv (sub_lock hb) fun u e _ => ?_⟩
    rw [upd_ne (show a ≠ b from fun z => hn (.inr (.inr ⟨i, h, z ▸ e2⟩)))]
    exact e
  ds := S.ds
  fr := fun c u e _ => .of (bare_some e)
  st := S.st.lock hb
  av := fun c h => by
    obtain ⟨u, e⟩ := S.av c h
    by_cases z : c = b
    · exact ⟨_, by rw [z]; exact upd_same⟩
    · exact ⟨u, by rw [upd_ne z]; exact e⟩
  pn := S.pn
theorem SR.leL (S : SR K aS O A0 H0 σ H s n) (hb : H b = some (.dK ys)) : ∀ c u, H0 c = some u → c ≠ aS → c ≠ b → Kp1 u (bare O σ (upd H b (.frz o (.dK ys))) c) := fun c u e z1 z2 => by
  have h := S.le c u e z1
  have hn : ¬ ∃ i, i ∈ O ∧ σ[i]? = some (some (.ref c)) := fun y => by
    obtain ⟨v, q⟩ := h.dom
    rw [bare_own y] at q
    cases q
  rw [bare_not hn] at h
  rw [bare_not hn, upd_ne z2]
  exact h
theorem SR.unkp (S : SR K aS O A0 H0 σ H s n) (hb : H b = some (.dK ys)) (k : KpS aS (bare O σ (upd H b (.frz o (.dK ys)))) H') : KpS aS H0 (upd H' b (.dK ys)) := fun c u e z => by
  by_cases y : c = b
  · have h := S.fr c u e z
    rw [y, hb] at h
    rw [y, upd_same]
    exact h
  · rw [upd_ne y]
    exact (S.leL hb c u e z y).trans fun v e' => k c v e' z
theorem SR.atL (S : SR K aS O A0 H0 σ H s n) (hn : ¬ AV aS A0 O σ b) (hb : H b = some (.dK ys)) (k : KpS aS (bare O σ (upd H b (.frz o (.dK ys)))) H') : H' b = some (.frz o (.dK ys)) :=
  k b (.frz o (.dK ys)) ((bare_not fun z => hn (.inr (.inr z))).trans upd_same) fun z => hn (.inr (.inl z))
theorem SR.unlock (S : SR K aS O A0 H0 σ H s n) (hn : ¬ AV aS A0 O σ b) (hb : H b = some (.dK ys)) {O' : List Nat} (S' : SR K aS O' A0 (bare O σ (upd H b (.frz o (.dK ys)))) σ' H' s' n') : SR K aS O' A0 H0 σ' (upd H' b (.dK ys)) s' n' where
  len := S'.len
  sh := fun i d h1 h2 => let ⟨v, e, r⟩ := S'.sh i d h1 h2; ⟨v, e, Rep.mono (sub_unlock (S.atL hn hb S'.fr)) _ _ r⟩
  ow := fun i h => by
    obtain ⟨d, a, e1, e2, e3, e4, e5, e6⟩ := S'.ow i h
    refine ⟨d, a, e1, e2, Option.eq_none_iff_forall_ne_some.mpr fun u z => ?_, e4, e5, e6.mv (sub_unlock (S.atL hn hb S'.fr)) fun u e nf => ?_⟩
    · by_cases y : a = b
      · rw [y, bare_not fun z => hn (.inr (.inr z)), upd_same] at e3
        cases e3
      · obtain ⟨v, q⟩ := (S.leL hb a u z e5 y).dom
        rw [e3] at q
        cases q
    · have ne : a ≠ b := fun z => by
        rw [z, S.atL hn hb S'.fr] at e
        cases e
        exact nf _ _ rfl
      rw [upd_ne ne]
      exact e
  ds := S'.ds
  fr := S.unkp hb S'.fr
  st := S'.st.unlock (S.atL hn hb S'.fr)
  av := fun c h => by
    obtain ⟨u, e⟩ := S'.av c h
    by_cases z : c = b
    · exact ⟨_, by rw [z]; exact upd_same⟩
    · exact ⟨u, by rw [upd_ne z]; exact e⟩
  pn := S'.pn
end
/-- a path: a name, a field of a path, a place of a tuple -/
def Plain0 (u : HO) : Prop := (∀ C dx fs, u ≠ .ins C dx fs) ∧ (∀ xs, u ≠ .tup xs) ∧ ∀ o v, u ≠ .frz o v
theorem plain_dK {ys : List (Key × V)} : Plain0 (.dK ys) := ⟨fun _ _ _ z => (nomatch z), fun _ z => (nomatch z), fun _ _ z => (nomatch z)⟩
def VP (X : Cx) (O : List Nat) (e : Expr) (p : Ev → Option D) : Prop := ∃ t, PE X e t ∧ ∃ pv : L2.St → Hp → V → Prop, (∀ σ H v (Q : VK), pv σ H v → Q v H → t σ H Q) ∧
  (∀ (aS : Addr) (A0 : A0T) (H0 : Hp) (σ : L2.St) (H : Hp) (s : Ev) (n : Nat) (d : D), SR X.K aS O A0 H0 σ H s n → p s = some d → ∃ v, pv σ H v ∧ Rep X.K aS H (AV aS A0 O σ) d v) ∧
  ∀ σ H b o u v, H b = some u → Plain0 u → pv σ H v → pv σ (upd H b (.frz o u)) v
section
variable {X : Cx} {E : XK} {O OL vs : List Nat} {e tg : Expr} {p : Ev → Option D} {pos : Pos} {i : Nat} {g : DG} {mb : SM} {me mk : EM D} {mt : EM Bool}
theorem vp_var {x : Str} (hi : i ∉ O) (hN : X.N[i]? = some x) (hv : Vis X.env.scope x) (hd : (x == ("__debug__" : Str)) = false := by decide) (hcd : (x == ("__classdict__" : Str)) = false := by decide) : VP X O (.Name x pos) (fun s => (s[i]?).join) := by
  refine ⟨_, pe_var hN hv hd hcd, fun σ _ v => σ[i]? = some (some v), fun σ H v Q e q => ⟨v, e, q⟩, fun aS A0 H0 σ H s n d S e => ?_, fun _ _ _ _ _ _ _ _ h => h⟩
  have e : (s[i]?).join = some d := e
  have es : s[i]? = some (some d) := by
    cases h : s[i]? with
    | none => rw [h] at e; cases e
    | some o => rw [h] at e; exact congrArg some e
  exact S.sh i d es hi
theorem atI_nat {α : Type} (xs : List α) (k : Nat) : L2.atI xs (k : Int) = xs[k]? := by
  unfold L2.atI ixN
  by_cases h : k < xs.length
  · rw [if_pos (by omega), if_pos (by omega)]
    simp
  · rw [if_pos (by omega), if_neg (by omega)]
    simp at h
    simp [h]
end
end DL
namespace DL
open PySem PySem.Spec PyProof.Rows L2
variable [TabC]
/-! ### dicts by data -/
def putD (kvs : List (Key × D)) (k : Key) (v : D) : List (Key × D) :=
  if (lookK kvs k).isSome = true then kvs.map (fun p => (p.1, if p.1 = k then v else p.2)) else kvs.concat (k, v)
def mergeD (kvs more : List (Key × D)) : List (Key × D) := more.foldl (fun acc kv => putD acc kv.1 kv.2) kvs
section
variable {K : PySem.W.Frag} {aS a b : Addr} {H H' H0 : Hp} {A : AS}
theorem RepK.nil : RepK K aS H A [] [] := by rw [RepK]
theorem RepK.cons {k : Key} {d : D} {v : V} {ds : List (Key × D)} {vs : List (Key × V)} (r : Rep K aS H A d v) (q : RepK K aS H A ds vs) : RepK K aS H A ((k, d) :: ds) ((k, v) :: vs) := by
  rw [RepK]
  exact ⟨v, vs, rfl, r, q⟩
theorem RepK.new (k : Key) {ds : List (Key × D)} {vs : List (Key × V)} (h : RepK K aS H A ds vs) : (vs.any fun kv => decide (kv.1 = k)) = (lookK ds k).isSome := by
  rw [valV_any]
  rcases h.val k with ⟨e1, e2⟩ | ⟨_, _, e1, e2, _⟩ <;> rw [e1, e2] <;> rfl
theorem RepK.swap {k : Key} {d : D} {v : V} (r : Rep K aS H A d v) : ∀ {ds : List (Key × D)} {vs : List (Key × V)}, RepK K aS H A ds vs → RepK K aS H A (ds.map fun p => (p.1, if p.1 = k then d else p.2)) (vs.map fun kv => if kv.1 = k then (kv.1, v) else kv)
  | [], vs, h => by rw [RepK] at h; rw [h]; exact RepK.nil
  | (k', d') :: ds, vs, h => by
    rw [RepK] at h
    obtain ⟨v', vr, e, r', q⟩ := h
    rw [e, List.map_cons, List.map_cons]
    by_cases z : k' = k
    · rw [if_pos z, if_pos z]; exact RepK.cons r (RepK.swap r q)
    · rw [if_neg z, if_neg z]; exact RepK.cons r' (RepK.swap r q)
theorem RepK.app {es : List (Key × D)} {ws : List (Key × V)} (r : RepK K aS H A es ws) : ∀ {ds : List (Key × D)} {vs : List (Key × V)}, RepK K aS H A ds vs → RepK K aS H A (ds ++ es) (vs ++ ws)
  | [], vs, h => by rw [RepK] at h; rw [h]; exact r
  | (k', d') :: ds, vs, h => by
    rw [RepK] at h
    obtain ⟨v', vr, e, r', q⟩ := h
    rw [e]
    exact RepK.cons r' (RepK.app r q)
theorem RepK.put {ds : List (Key × D)} {vs : List (Key × V)} (k : Key) {d : D} {v : V} (h : RepK K aS H A ds vs) (r : Rep K aS H A d v) : RepK K aS H A (putD ds k d) (putK vs k v) := by
  unfold putD putK
  rw [h.new k]
  split
  · exact RepK.swap r h
  · rw [List.concat_eq_append]
    exact RepK.app (RepK.cons r RepK.nil) h
theorem RepK.merge : ∀ {es : List (Key × D)} {ws : List (Key × V)} {ds : List (Key × D)} {vs : List (Key × V)}, RepK K aS H A es ws → RepK K aS H A ds vs → RepK K aS H A (mergeD ds es) (mergeK vs ws)
  | [], ws, ds, vs, h, q => by rw [RepK] at h; rw [h]; exact q
  | (k, d) :: es, ws, ds, vs, h, q => by
    rw [RepK] at h
    obtain ⟨v', vr, e, r', h⟩ := h
    subst e
    exact RepK.merge (es := es) (ws := vr) h (q.put k r')
theorem putD_len (kvs : List (Key × D)) (k : Key) (d : D) : (putD kvs k d).length ≤ kvs.length + 1 := by
  unfold putD
  split
  · rw [List.length_map]; omega
  · rw [List.length_concat]; exact Nat.le_refl _
end
/-! dict(x) -/
def pairK : D → Option (Key × D)
  | .tup [k, v] => (keyD k).map fun k => (k, v)
  | _ => none
def pairsK : List D → Option (List (Key × D))
  | [] => some []
  | d :: ds => match pairK d, pairsK ds with | some p, some r => some (p :: r) | _, _ => none
def dDict : List D → Option D
  | [.dic kvs] => some (.dic kvs)
  | [.lst ds] => (pairsK ds).map fun kvs => .dic (mergeD [] kvs)
  | _ => none
section
variable {X : Cx}
theorem call_dictC : CallR X (.type "dict") (fun xs H Q => ∃ (a : Addr) (kvs : List (Key × V)), xs = [.ref a] ∧ Rd H a (.dK kvs) ∧ ∀ p, H p = none → Q (.ref p) (upd H p (.dK kvs))) := by
  intro pins s σ H xs us Q I rv q
  obtain ⟨a, kvs, ex, h, q⟩ := q
  subst ex
  obtain ⟨u, eu, rx⟩ := vals1 rv
  subst eu
  cases rx
  exact d_copyOf I h fun p s' hp I' => ⟨.ref p, _, I', rfl, q p hp⟩
theorem pairs_rep {K : PySem.W.Frag} {aS : Addr} {H : Hp} {A : AS} : ∀ {ds : List D} {vs : List V} {kvs : List (Key × D)}, A aS → pairsK ds = some kvs → RepL K aS H A ds vs → ∃ (ps : List Addr) (kws : List (Key × V)), vs = ps.map V.ref ∧ Paired (fun p (kv : Key × V) => SqT K H p [kV kv.1, kv.2]) ps kws ∧ RepK K aS H A kvs kws
  | [], vs, kvs, hA, e, h => by
    rw [RepL] at h
    cases e
    exact ⟨[], [], h, .nil, RepK.nil⟩
  | d :: ds, vs, kvs, hA, e, h => by
    rw [RepL] at h
    obtain ⟨v, vr, ev, r, q⟩ := h
    unfold pairsK at e
    split at e
    · next p rr hp hr =>
      cases e
      obtain ⟨ps, kws, e1, e2, e3⟩ := pairs_rep hA hr q
      unfold pairK at hp
      split at hp
      · next k v' =>
        cases hk : keyD k with
        | none => rw [hk] at hp; cases hp
        | some kk =>
          rw [hk] at hp
          cases hp
          rw [Rep] at r
          obtain ⟨a, xs, ea, ht, rl⟩ := r
          rw [RepL] at rl
          obtain ⟨v1, vr1, ex, r1, rl⟩ := rl
          rw [RepL] at rl
          obtain ⟨v2, vr2, ex2, r2, rl⟩ := rl
          rw [RepL] at rl
          subst rl ex2 ex ea
          have ek := key_rep hk (Rep.b hA r1)
          subst ek
          subst e1
          refine ⟨a :: ps, (kk, v2) :: kws, ev, .cons ht.sq e2, RepK.cons r2 e3⟩
      · cases hp
    · cases e
theorem own_newK' {K : PySem.W.Frag} {aS p : Addr} {H : Hp} {A : AS} {ds : List (Key × D)} {xs : List (Key × V)} (hp : H p = none) (r : RepK K aS H A ds xs) : Own K aS (upd H p (.dK xs)) (fun b => A b ∨ b = p) p (.dic ds) := ⟨xs, upd_same, RepK.mono (sub_new hp) _ _ r⟩
theorem cf_dict (hc : X.calm = true) : CallF X (.type "dict") dDict := by
  refine ⟨_, CallR.or call_dictC (call_dictP hc), fun aS H A n ds d vs Q c rl e w => ?_⟩
  unfold dDict at e
  split at e
  · cases e
    obtain ⟨v, e1, r⟩ := rl_one rl
    obtain ⟨p, xs, e2, _, h1, q⟩ := repB_dic r
    subst e1 e2
    exact .inl ⟨p, xs, rfl, h1, fun l hl => w _ _ hl (KpS.upd hl) (c.st.upd hl) (own_newK' hl q)⟩
  · next ds' =>
    cases hp : pairsK ds' with
    | none => rw [hp] at e; cases e
    | some kvs =>
      rw [hp] at e
      cases e
      obtain ⟨v, e1, r⟩ := rl_one rl
      obtain ⟨p, xs, e2, _, h1, q⟩ := repB_lst r
      subst e1 e2
      obtain ⟨ps, kws, z1, z2, z3⟩ := pairs_rep c.a hp q
      subst z1
      exact .inr ⟨p, ps, kws, rfl, SqL.of h1, z2, fun l hl => w _ _ hl (KpS.upd hl) (c.st.upd hl) (own_newK' hl (z3.merge RepK.nil))⟩
  · cases e
/-! {}, d[k] = v, d.get(k, x) -/
variable {E : XK} {O OL vs : List Nat} {e tg o : Expr} {p : Ev → Option D} {pos : Pos} {i : Nat} {g : DG} {mb : SM} {m me mk mo mx : EM D} {mt : EM Bool}
theorem vf_dic0 : VF X E O (.Dict [] [] pos) (eC (.dic [])) := ⟨mn_c, _, pe_dnewK, fun aS A0 H0 σ H s n xq Q S L hm q hq => hm q _ hq (KpS.upd hq) (S.st.upd hq) (own_newK' hq RepK.nil)⟩
def sDput (i : Nat) (mk m : EM D) : SM := fun xq de s n => m xq s n fun d n1 => mk xq s n1 fun k n2 => ∃ kk kvs, keyD k = some kk ∧ s[i]? = some (some (.dic kvs)) ∧ kvs.length < LIM ∧ de.nx (s.set i (some (.dic (putD kvs kk d)))) n2
theorem vs_dput {x : Str} {ix : Expr} {px ps : Pos} (hu : X.A.units + 1 < cLine) (hi : i ∈ O) (hN : X.N[i]? = some x) (hv : Vis X.env.scope x) (hk : VE X E O ix mk) (h : VE X E O e m) (hs : swapsWith e (some (.Subscript (.Name x px) ix ps)) pos.line X.env = pure false := by rfl)
    (hd : (x == ("__debug__" : Str)) = false := by decide) (hcd : (x == ("__classdict__" : Str)) = false := by decide) : VS X E O O OL (.Assign [.Subscript (.Name x px) ix ps] e pos) (sDput i mk m) := by
  obtain ⟨mn, t, pe, f⟩ := h
  obtain ⟨mnk, tk, pk, fk⟩ := hk
  refine ⟨_, ps_dput hu (pe_var hN hv hd hcd) pk pe hs, fun aS A0 H0 σ H s n xq de De S L k h => ?_⟩
  refine f aS A0 H0 σ H s n xq _ S L (mn _ _ _ _ _ (fun d n1 q v H1 k1 st1 r1 => ?_) h)
  have S1 := S.step k1 st1
  obtain ⟨d0, a, e1, e2, _⟩ := S.ow i hi
  refine ⟨.ref a, e2, fk aS A0 H0 σ H1 s n1 xq _ S1 L (mnk _ _ _ _ _ (fun dk n2 q2 u H2 k2 st2 r2 => ?_) q)⟩
  obtain ⟨kk, kvs, z1, z2, z3, q2⟩ := q2
  have S2 := S1.step k2 st2
  obtain ⟨a', ys, y1, y2, y3, y4⟩ := own_dic S2 hi z2
  rw [e2] at y1
  cases y1
  have ek := key_rep z1 (r2.b AV.st)
  subst ek
  refine ⟨a, _, rfl, DPut.k y3 (by rw [y4.length]; exact lim_lt z3), k.nx _ _ _ _ (S2.mutD hi e2 y3 (y4.put kk (r1.kp k2 st1 AV.st))) q2⟩
def eDget (mo mk mx : EM D) : EM D := fun xq s n Q => mo xq s n fun d n1 => ∃ kvs, d = .dic kvs ∧ mk xq s n1 fun k n2 => mx xq s n2 fun x n3 => ∃ kk, keyD k = some kk ∧ Q ((lookK kvs kk).getD x) n3
theorem ve_dget {ek ex : Expr} {ap : Pos} (hu : X.A.units + 1 < cLine) (ho : VB X E O o mo) (hk : VE X E O ek mk) (hx : VE X E O ex mx) (hM : M2 X o "get" ap ek ex pos := by exact ⟨rfl, rfl, rfl, rfl⟩) : VE X E O (.Call (.Attribute o "get" ap) [ek, ex] [] pos) (eDget mo mk mx) := by
  obtain ⟨mno, to, po, fo⟩ := ho
  obtain ⟨mnk, tk, pk, fk⟩ := hk
  obtain ⟨mnx, tx, px, fx⟩ := hx
  refine ⟨fun xq s n Q Q' hq w => mno _ _ _ _ _ (fun d n1 ⟨kvs, e, w⟩ => ⟨kvs, e, mnk _ _ _ _ _ (fun k n2 w => mnx _ _ _ _ _ (fun x n3 ⟨kk, e, w⟩ => ⟨kk, e, hq _ _ w⟩) w) w⟩) w, _, pe_dget2 hu po pk px hM, fun aS A0 H0 σ H s n xq Q S L hm => ?_⟩
  refine fo aS A0 H0 σ H s n xq _ S L (mno _ _ _ _ _ (fun d n1 q v H1 k1 st1 r1 => ?_) hm)
  obtain ⟨kvs, ed, q⟩ := q
  subst ed
  obtain ⟨a, ys, ev, na, hr, rk⟩ := repB_dic r1
  refine ⟨a, ev, .inl ⟨ys, hr⟩, fk aS A0 H0 σ H1 s n1 xq _ (S.step k1 st1) L (mnk _ _ _ _ _ (fun d2 n2 q2 v2 H2 k2 st2 r2 => ?_) q)⟩
  refine fx aS A0 H0 σ H2 s n2 xq _ (S.step (k1.trans k2) st2) L (mnx _ _ _ _ _ (fun d3 n3 q3 v3 H3 k3 st3 r3 => ?_) q2)
  obtain ⟨kk, z1, q3⟩ := q3
  have ek := key_rep z1 (r2.b AV.st)
  subst ek
  have k23 := k2.trans k3
  have rk' := rk.kp k23 st1 AV.st
  have hr' := Rd.kp k23 na hr
  refine ⟨valV ys kk, .inl ⟨ys, kk, hr', rfl, rfl⟩, q3 _ H3 (k1.trans k23) st3 ?_⟩
  rcases rk'.val kk with ⟨y1, y2⟩ | ⟨d', v', y1, y2, y3⟩
  · rw [y1, y2]; exact r3
  · rw [y1, y2]; exact y3
end
end DL
namespace DL
open PySem PySem.Spec PyProof.Rows L2
variable [TabC]
/-! ### loops by their ends -/
def GSem (X : Cx) (O vs : List Nat) (g : DG) (gt : TG) : Prop := ∀ (aS : Addr) (A0 : A0T) (H0 : Hp) (σ : L2.St) (H : Hp) (s : Ev) (n : Nat) (d : D) (v : V) (Q : Ev → Prop) (QH : L2.St → Hp → Prop), SR X.K aS O A0 H0 σ H s n → Rep X.K aS H (AV aS A0 O σ) d v → g d s Q →
    (∀ σ' s', SR X.K aS O A0 H0 σ' H s' n → σ'.length = σ.length → (∀ j, j ∉ vs → σ'[j]? = σ[j]?) → AV aS A0 O σ' = AV aS A0 O σ → Q s' → QH σ' H) → gt v σ H QH
def TSem (X : Cx) (E : XK) (O : List Nat) (mt : EM Bool) (t : TT) : Prop := ∀ (aS : Addr) (A0 : A0T) (H0 : Hp) (σ : L2.St) (H : Hp) (s : Ev) (n : Nat) (xq : XQ) (Q : Bool → Hp → Prop), SR X.K aS O A0 H0 σ H s n → LX X.K E aS A0 H0 xq →
    mt xq s n (fun b n' => ∀ H', KpS aS H H' → StA X.K aS H' n' → Q b H') → t σ H Q
def ESem (X : Cx) (E : XK) (O : List Nat) (m : EM D) (t : TE) : Prop := ∀ (aS : Addr) (A0 : A0T) (H0 : Hp) (σ : L2.St) (H : Hp) (s : Ev) (n : Nat) (xq : XQ) (Q : VK), SR X.K aS O A0 H0 σ H s n → LX X.K E aS A0 H0 xq →
    m xq s n (fun d n' => ∀ v H', KpS aS H H' → StA X.K aS H' n' → Rep X.K aS H' (AV aS A0 O σ) d v → Q v H') → t σ H Q
def BSem (X : Cx) (E : XK) (O : List Nat) (mb : SM) (t : TS) : Prop := ∀ (aS : Addr) (A0 : A0T) (H0 : Hp) (σ : L2.St) (H : Hp) (s : Ev) (n : Nat) (xq : XQ) (de : DE) (De : Ends), SR X.K aS O A0 H0 σ H s n → LX X.K E aS A0 H0 xq → LK X.K aS O O A0 H0 de De → mb xq de s n → t De σ H
/-- a walk J that begins at H1 -/
abbrev iAt (J : It) (H1 : Hp) : TI := fun _ _ R => R J H1
def ForW (J : It) (g : TG) (tb : TS) (D : Ends) (σ : L2.St) (H1 : Hp) : Prop := tFor (iAt J H1) g tb D σ H1
def DcW (J : It) (g : TG) (tt : TT) (tk tv : TE) (vs : List Nat) (σ : L2.St) (H1 : Hp) (Q : VK) : Prop := tDc (iAt J H1) g tt tk tv vs σ H1 Q
/-- one turn of a dict comprehension into the dict at D, N what stands behind it -/
def DTurn (g : TG) (tt : TT) (tk tv : TE) (vs : List Nat) (σ : L2.St) (D : Addr) (N : Hp → Prop) (x : V) (H : Hp) : Prop := g x (wipe σ vs) H fun σ' H' => wipe σ' vs = wipe σ vs ∧ tt σ' H' fun c H'' =>
  if c = true then tk σ' H'' fun y Hk => tv σ' Hk fun z Hv => ∃ kvs k, y = kV k ∧ Hv D = some (.dK kvs) ∧ kvs.length < sizeLine ∧ N (upd Hv D (.dK (putK kvs k z))) else N H''
theorem dc_walk {J : It} {n : Nat} {G : Hp → Prop} {Y : Nat → Hp → V → Hp → Prop} (w : Walk J n G Y) {g : TG} {tt : TT} {tk tv : TE} {vs : List Nat} {σ : L2.St} {H1 : Hp} {Q : VK}
    (h : ∀ D, H1 D = none → ∃ Pv : Nat → Hp → Prop, Pv 0 (upd H1 D (.dK [])) ∧ (∀ i H, i ≤ n → Pv i H → G H) ∧ (∀ i x H H', i < n → Pv i H → Y i H x H' → DTurn g tt tk tv vs σ D (Pv (i + 1)) x H') ∧ ∀ H, Pv n H → Q (.ref D) H) : DcW J g tt tk tv vs σ H1 Q := by
  intro D hD
  obtain ⟨Pv, h0, hG, hs, hd⟩ := h D hD
  refine ⟨fun i m H => i ≤ n ∧ m = n - i ∧ Pv i H, ⟨n, Nat.zero_le _, rfl, h0⟩, fun i m H z => ?_⟩
  obtain ⟨hi, hm, p⟩ := z
  rcases Nat.lt_or_ge i n with hlt | hge
  · exact .inr ⟨w.goes i H hlt (hG i H hi p), Pv (i + 1), fun H' q => ⟨n - (i + 1), by omega, by omega, rfl, q⟩, fun x H' y => hs i x H H' hlt p (w.yields i H x H' hlt (hG i H hi p) y)⟩
  · obtain rfl : i = n := Nat.le_antisymm hi hge
    exact .inl ⟨w.stops H (hG _ H hi p), hd H p⟩
section
variable {X : Cx} {E : XK} {O OB OL vs hid : List Nat} {tg e iter : Expr} {ifs : List Expr} {m me mk : EM D} {mi : EM (List D)} {mt : EM Bool} {mb : SM} {g : DG} {scope : Scope} {pos : Pos}
theorem for_fin {gt : TG} {tb : TS} (fg : GSem X O vs g gt) (fb : BSem X E O mb tb) {aS : Addr} {A0 : A0T} {H0 H1 : Hp} {σ : L2.St} {s : Ev} {n1 : Nat} {xq : XQ} {de : DE} {De : Ends} {ds : List D} {J : It}
    (S1 : SR X.K aS O A0 H0 σ H1 s n1) (L : LX X.K E aS A0 H0 xq) (k : LK X.K aS O OL A0 H0 de De) (it : ItOk X.K aS A0 ds J (bare O σ H1)) (q : sForL g mb xq de ds s n1) : ForW J gt tb De σ H1 := by
  have le := S1.le
  have hF : ∀ {σ' H' s' n'}, SR X.K aS O A0 (bare O σ H1) σ' H' s' n' → Far aS A0 (bare O σ H1) (AV aS A0 O σ') := fun {σ' H' s' n'} S' => ⟨AV.st, fun b z => by
    rcases z with z | z | ⟨j, hj, e⟩
    · exact .inl z
    · exact .inr (.inl z)
    · obtain ⟨d, b', e1, e2, e3, _⟩ := S'.ow j hj
      rw [e] at e2
      cases e2
      exact .inr (.inr e3)⟩
  obtain ⟨G, Y, w, hG, hY⟩ := it
  refine for_it w (fun i σ' H' => ∃ s' n', SR X.K aS O A0 (bare O σ H1) σ' H' s' n' ∧ sForL g mb xq de (ds.drop i) s' n') ⟨s, n1, S1.base, q⟩ (fun i σ' H' _ z => ?_) (fun i x σ' H' H2 hi z y => ?_) (fun σ' H' z => ?_)
  · obtain ⟨s', n', S', _⟩ := z
    exact hG H' S'.fr
  · obtain ⟨s', n', S', q'⟩ := z
    obtain ⟨k2, d, ed, rd⟩ := hY i H' x H2 n' _ hi S'.fr S'.st (hF S') y
    rw [drop_get ed] at q'
    have S2 := S'.step (KpS.all k2.1) (S'.st.kp k2)
    refine fg aS A0 _ σ' H2 s' n' d x _ _ S2 rd q' fun σ3 s3 S3 _ _ a3 q3 => ?_
    exact fb aS A0 _ σ3 H2 s3 n' xq { de with nx := fun s2 n2 => sForL g mb xq de (ds.drop (i + 1)) s2 n2, ct := fun s2 n2 => sForL g mb xq de (ds.drop (i + 1)) s2 n2, bk := de.nx } _ S3 (L.base le) ⟨fun σ4 H4 s4 n4 S4 q4 => ⟨s4, n4, S4, q4⟩, (k.base le).rt, fun σ4 H4 s4 n4 S4 q4 => k.nx σ4 H4 s4 n4 (S4.back le) q4, fun σ4 H4 s4 n4 S4 q4 => ⟨s4, n4, S4, q4⟩⟩ q3
  · obtain ⟨s', n', S', q'⟩ := z
    rw [List.drop_length] at q'
    exact k.nx σ' H' s' n' (S'.back le) q'
end
end DL
namespace DL
open PySem PySem.Spec PyProof.Rows L2
variable [TabC]
/-! ### dict comprehensions -/
def sDcL (g : DG) (mt : EM Bool) (mk me : EM D) (xq : XQ) (s0 : Ev) : List D → Nat → List (Key × D) → (List (Key × D) → Nat → Prop) → Prop
  | [], n, acc, Q => Q acc n
  | d :: ds, n, acc, Q => g d s0 fun s1 => mt xq s1 n fun c n1 => if c = true then mk xq s1 n1 fun k n2 => me xq s1 n2 fun x n3 => ∃ kk, keyD k = some kk ∧ sDcL g mt mk me xq s0 ds n3 (putD acc kk x) Q else sDcL g mt mk me xq s0 ds n1 acc Q
section
variable {X : Cx} {E : XK} {O OB OL vs hid : List Nat} {tg e iter kx : Expr} {ifs : List Expr} {m me mk : EM D} {mi : EM (List D)} {mt : EM Bool} {mb : SM} {g : DG} {scope : Scope} {pos : Pos}
theorem mn_dcL (h1 : Mn mt) (hk : Mn mk) (h2 : Mn me) (h3 : ∀ d s Q Q', (∀ s', Q s' → Q' s') → g d s Q → g d s Q') {xq : XQ} {s0 : Ev} : ∀ (ds : List D) (n : Nat) (acc : List (Key × D)) (Q Q' : List (Key × D) → Nat → Prop), (∀ x n, Q x n → Q' x n) → sDcL g mt mk me xq s0 ds n acc Q → sDcL g mt mk me xq s0 ds n acc Q'
  | [], n, acc, Q, Q', hq, h => hq _ _ h
  | d :: ds, n, acc, Q, Q', hq, h => h3 _ _ _ _ (fun s1 h => h1 _ _ _ _ _ (fun c n1 h => by
      cases c with
      | true => exact hk _ _ _ _ _ (fun k n2 h => h2 _ _ _ _ _ (fun x n3 ⟨kk, e, h⟩ => ⟨kk, e, mn_dcL h1 hk h2 h3 ds n3 _ Q Q' hq h⟩) h) h
      | false => exact mn_dcL h1 hk h2 h3 ds n1 _ Q Q' hq h) h) h
theorem dc_fin {own : List (Str × Nat)} {ws : List Nat} {gt : TG} {tt : TT} {tk te : TE} (mnt : Mn mt) (mnk : Mn mk) (mne : Mn me) (fg : GSem X OB ws g gt) (ft : TSem X E OB mt tt) (fk : ESem X E OB mk tk) (fe : ESem X E OB me te) (hown : ∀ j ∈ own.map (·.2), j ∉ OB) (hws : ∀ j ∈ ws, j ∈ own.map (·.2))
    {aS : Addr} {A0 A1 : A0T} {H0 H H1 : Hp} {σ : L2.St} {s : Ev} {n1 : Nat} {ds : List D} {J : It} {Q : VK} (kp : KpS aS H H1) (st : StA X.K aS H1 n1) (eA : AV aS A1 OB σ = AV aS A0 O σ) (S1 : SR X.K aS OB A1 H0 σ H1 (hideL s hid) n1) (it : ItOk X.K aS A1 ds J (bare OB σ H1)) (hlim : ds.length ≤ LIM)
    (q : sDcL g mt mk me (fun _ _ => False) (hideL s (own.map (·.2) ++ hid)) ds n1 [] fun xs n2 => ∀ a H', H a = none → KpS aS H H' → StA X.K aS H' n2 → Own X.K aS H' (fun b => AV aS A0 O σ b ∨ b = a) a (.dic xs) → Q (.ref a) H') : DcW J gt tt tk te (own.map (·.2)) σ H1 Q := by
  have LF : ∀ A1, LX X.K E aS A1 H0 (fun _ _ => False) := fun _ _ _ _ _ _ _ _ _ z => z.elim
  obtain ⟨G, Y, w, hG, hY⟩ := it
  refine dc_walk w fun Dn hD => ?_
  have hDs : Dn ≠ aS := fun z => by
    obtain ⟨xs, e⟩ := st.lst
    rw [z, e] at hD
    cases hD
  have hD0 : H0 Dn = none := Option.eq_none_iff_forall_ne_some.mpr fun u z => by
    exact (KpS.gone S1.fr hD z (hDs)).elim
  have hDH : H Dn = none := Option.eq_none_iff_forall_ne_some.mpr fun u z => by
    exact (KpS.gone kp hD z (hDs)).elim
  have S2 : SR X.K aS OB ⟨fun b => A1 b ∨ b = Dn, A1.z⟩ H0 (L2.wipe σ (own.map (·.2))) (upd H1 Dn (.dK [])) (hideL s (own.map (·.2) ++ hid)) n1 := by
    rw [hideL_append]
    exact (SR.wipe hown S1).laidA hD
  have hFar : ∀ {σ'}, AV aS (fun b => A1 b ∨ b = Dn) OB σ' = AV aS (fun b => A1 b ∨ b = Dn) OB σ → Far aS A1 (bare OB σ H1) (AV aS (fun b => A1 b ∨ b = Dn) OB σ') := fun {σ'} e => by
    rw [e]
    refine ⟨AV.st, fun b z => ?_⟩
    rcases z with (z | z) | z | z
    · exact .inl z
    · refine .inr (.inr ?_)
      by_cases y : ∃ i, i ∈ OB ∧ σ[i]? = some (some (.ref b))
      · exact bare_own y
      · rw [bare_not y, z]; exact hD
    · exact .inr (.inl z)
    · exact .inr (.inr (bare_own z))
  have eW : AV aS (fun b => A1 b ∨ b = Dn) OB (L2.wipe σ (own.map (·.2))) = AV aS (fun b => A1 b ∨ b = Dn) OB σ := AV.wipe hown
  have kb : ∀ {H'}, KpS aS H1 H' → KpS aS (bare OB σ H1) H' := fun {H'} k b u e z => k b u (bare_some e) z
  refine ⟨(fun i H' => ∃ n' acc xs, SR X.K aS OB ⟨fun b => A1 b ∨ b = Dn, A1.z⟩ H0 (L2.wipe σ (own.map (·.2))) H' (hideL s (own.map (·.2) ++ hid)) n' ∧ KpS aS H1 H' ∧ H' Dn = some (.dK xs) ∧ RepK X.K aS H' (AV aS (fun b => A1 b ∨ b = Dn) OB σ) acc xs ∧ acc.length ≤ i ∧
      sDcL g mt mk me (fun _ _ => False) (hideL s (own.map (·.2) ++ hid)) (ds.drop i) n' acc (fun xs n2 => ∀ a H', H a = none → KpS aS H H' → StA X.K aS H' n2 → Own X.K aS H' (fun b => AV aS A0 O σ b ∨ b = a) a (.dic xs) → Q (.ref a) H'))
    , ⟨n1, [], [], S2, KpS.upd hD, upd_same, RepK.nil, Nat.zero_le _, q⟩, (fun i H' _ z => ?_), (fun i x H' H2 hi z y => ?_), (fun H' z => ?_)⟩
  · obtain ⟨n', acc, xs, _, k1, _⟩ := z
    exact hG H' (kb k1)
  · obtain ⟨n', acc, xs, S', k1, hd, rl, hl, q'⟩ := z
    obtain ⟨k2, d, ed, rd⟩ := hY i H' x H2 n' _ hi (kb k1) S'.st (hFar eW) y
    rw [drop_get ed] at q'
    have S3 := S'.step (KpS.all k2.1) (S'.st.kp k2)
    refine fg aS _ H0 _ H2 _ n' d x _ _ S3 rd q' fun σ3 s3 S4 l3 o3 a3 q3 => ?_
    refine ⟨?_, ft aS _ H0 σ3 H2 s3 n' (fun _ _ => False) _ S4 (LF _) (mnt _ _ _ _ _ (fun c n2 q4 H3 k3 st3 => ?_) q3)⟩
    · have e1 := wipe_eq (vs := own.map (·.2)) l3 fun j hj => o3 j fun z => hj (hws j z)
      rw [e1]
      exact wipe_eq (wipe_length _ _) fun j hj => wipe_out hj
    · have kk : KpS aS H' H3 := (KpS.all k2.1).trans k3
      cases c with
      | true =>
        rw [if_pos rfl] at q4 ⊢
        refine fk aS _ H0 σ3 H3 s3 n2 (fun _ _ => False) _ (S4.step k3 st3) (LF _) (mnk _ _ _ _ _ (fun yk n3 q5 vk H4 k4 st4 r4 => ?_) q4)
        refine fe aS _ H0 σ3 H4 s3 n3 (fun _ _ => False) _ (S4.step (k3.trans k4) st4) (LF _) (mne _ _ _ _ _ (fun y n4 q6 v H5 k5 st5 r5 => ?_) q5)
        have k6 := (kk.trans k4).trans k5
        obtain ⟨key, hk, q6⟩ := q6
        refine ⟨xs, key, key_rep hk (r4.b AV.st), k6.dk hd hDs, ?_, n4, putD acc key y, putK xs key v, ?_, KpS.upd2 (k1.trans k6) hD, upd_same, ?_, Nat.le_trans (putD_len _ _ _) (Nat.succ_le_succ hl), q6⟩
        · rw [rl.length]
          exact Nat.lt_of_le_of_lt hl (lim_lt (Nat.lt_of_lt_of_le hi hlim))
        · exact (S'.step k6 st5).poke (.inr rfl) hDs (k6.dk hd hDs) hD0 (fun _ z => nomatch z) (fun _ _ z => nomatch z)
        · have e2 : AV aS (fun b => A1 b ∨ b = Dn) OB σ3 = AV aS (fun b => A1 b ∨ b = Dn) OB σ := a3.trans eW
          rw [e2] at r5
          exact RepK.mono (sub_poke (A := AV aS (fun b => A1 b ∨ b = Dn) OB σ) (.inl (.inr rfl)) (k6.dk hd hDs) (fun _ z => nomatch z)) _ _ ((rl.kp k6 S'.st AV.st).put key r5)
      | false =>
        rw [if_neg (by decide)] at q4 ⊢
        exact ⟨n2, acc, xs, S'.step kk st3, k1.trans kk, kk _ _ hd hDs, rl.kp kk S'.st AV.st, Nat.le_succ_of_le hl, q4⟩
  · obtain ⟨n', acc, xs, S', k1, hd, rl, hl, q'⟩ := z
    rw [List.drop_length] at q'
    refine q' Dn H' hDH (kp.trans k1) S'.st ⟨xs, hd, ?_⟩
    rw [AV.plus, eA] at rl
    exact rl
def eDc (mi : EM (List D)) (hs : List Nat) (g : DG) (mt : EM Bool) (mk me : EM D) : EM D := fun xq s n Q => mi xq s n fun ds n1 => ds.length ≤ LIM ∧ sDcL g mt mk me (fun _ _ => False) (hideL s hs) ds n1 [] fun xs n2 => Q (.dic xs) n2
theorem vf_dc {own : List (Str × Nat)} {ws : List Nat} (hc : X.calm = true) (hN : X.N.Nodup) (hi : VI X E O OB hid tg iter mi) (ok : BlkOk X.N X.env.scope scope own) (hown : ∀ j ∈ own.map (·.2), j ∉ OB) (hws : ∀ j ∈ ws, j ∈ own.map (·.2))
    (hg : ∀ c : Bk, VG (Cx.bk X scope c) OB ws tg g) (ht : ∀ c : Bk, VTs (Cx.bk X scope c) EF OB ifs mt) (hk : ∀ c : Bk, VE (Cx.bk X scope c) EF OB kx mk) (he : ∀ c : Bk, VE (Cx.bk X scope c) EF OB e me) (hs : ∀ x, foldedSetIterable iter X.env x = pure x := by intro _; rfl) :
    VF X E O (.DictComp kx e [⟨tg, iter, ifs, 0⟩] scope pos) (eDc mi (own.map (·.2) ++ hid) g mt mk me) := by
  have mnt := (ht bk0).1
  have mne := (he bk0).1
  have mnk := (hk bk0).1
  have mng := (hg bk0).1
  obtain ⟨mni, wi, pi, fi⟩ := hi
  obtain ⟨gt, pg, fg⟩ := VG.all hg
  obtain ⟨tt, pt, ft⟩ := VTs.all ht
  obtain ⟨tk, pk, fk⟩ := VX.all hk
  obtain ⟨te, pe, fe⟩ := VX.all he
  refine ⟨fun xq s n Q Q' hq h => mni _ _ _ _ _ (fun ds n1 h => ⟨h.1, mn_dcL mnt mnk mne mng _ _ _ _ _ (fun x n2 => hq _ _) h.2⟩) h, _, pe_dc hc hN pi ok (fun s H C cl fp => pg (s, H, C, cl, fp)) (fun s H C cl fp => pt (s, H, C, cl, fp)) (fun s H C cl fp => pk (s, H, C, cl, fp)) (fun s H C cl fp => pe (s, H, C, cl, fp)) hs, fun aS A0 H0 σ H s n xq Q S L hm => ?_⟩
  refine fi aS A0 H0 σ H s n xq _ S L (mni _ _ _ _ _ (fun ds n1 q J H1 A1 kp st eA S1 it => ?_) hm)
  exact dc_fin mnt mnk mne fg ft fk fe hown hws kp st eA S1 it q.1 q.2
/-! ### over a dict -/
/-- iter walks the dict at a path -/
def VD (X : Cx) (O : List Nat) (tg iter : Expr) (p : Ev → Option D) (f : List (Key × D) → List D) : Prop := ∃ (pv : L2.St → Hp → V → Prop) (J : Addr → Obj → List (Key × V) → It), PI X tg iter (fun σ H R => ∃ d o kvs, pv σ H (.ref d) ∧ H d = some (.frz o (.dK kvs)) ∧ R (J d o kvs) H) ∧
  (∀ (aS : Addr) (A0 : A0T) (H0 : Hp) (σ : L2.St) (H : Hp) (s : Ev) (n : Nat) (d : D), SR X.K aS O A0 H0 σ H s n → p s = some d → ∃ v, pv σ H v ∧ Rep X.K aS H (AV aS A0 O σ) d v) ∧
  (∀ σ H b o u v, H b = some u → Plain0 u → pv σ H v → pv σ (upd H b (.frz o u)) v) ∧
  ∀ (aS : Addr) (A0 : A0T) (H0 : Hp) (σ : L2.St) (H : Hp) (s : Ev) (n : Nat) b o ys kvs, SR X.K aS O A0 H0 σ H s n → ¬ AV aS A0 O σ b → H b = some (.frz o (.dK ys)) → RepK X.K aS H (AV aS A0 O σ) kvs ys → ItOk X.K aS A0 (f kvs) (J b o ys) (bare O σ H)
def keysD (kvs : List (Key × D)) : List D := (kvs.map (·.1)).map kD
def itemsD (kvs : List (Key × D)) : List D := kvs.map fun kv => .tup [kD kv.1, kv.2]
theorem RepK.at {K : PySem.W.Frag} {aS : Addr} {H : Hp} {A : AS} : ∀ {ds : List (Key × D)} {vs : List (Key × V)} {i : Nat} {k : Key} {v : V}, RepK K aS H A ds vs → vs[i]? = some (k, v) → ∃ d, ds[i]? = some (k, d) ∧ Rep K aS H A d v
  | [], vs, i, k, v, h, e => by rw [RepK] at h; rw [h] at e; simp at e
  | (k', d) :: ds, vs, i, k, v, h, e => by
    rw [RepK] at h
    obtain ⟨v', vr, ev, r, q⟩ := h
    subst ev
    cases i with
    | zero =>
      simp at e
      obtain ⟨e1, e2⟩ := e
      subst e1 e2
      exact ⟨d, rfl, r⟩
    | succ i => exact RepK.at (ds := ds) (vs := vr) (i := i) q (by simpa using e)
theorem frz_on {K : PySem.W.Frag} {aS b : Addr} {A0 : AS} {H H1 : Hp} {σ : L2.St} {o : Obj} {v : HO} (hn : ¬ AV aS A0 O σ b) (hb : H b = some (.frz o v)) (k : KpS aS (bare O σ H) H1) : H1 b = some (.frz o v) :=
  k b (.frz o v) ((bare_not fun z => hn (.inr (.inr z))).trans hb) fun z => hn (.inr (.inl z))
theorem vd_keys {p : Ev → Option D} (h : VP X O e p) : VD X O tg e p keysD := by
  obtain ⟨t, pe, pv, h1, h2, h3⟩ := h
  refine ⟨pv, Itk, ⟨fun pins s σ H R I ⟨d, o, kvs, e1, e2, q⟩ => (pi_keys pe).run pins s σ H R I (h1 σ H _ _ e1 ⟨d, o, rfl, .inl ⟨kvs, e2, q⟩⟩)⟩, h2, h3, fun aS A0 H0 σ H s n b o ys kvs S hn hb r => ?_⟩
  have hl : (keysD kvs).length = ys.length := by rw [keysD, List.length_map, List.length_map, r.length]
  refine ⟨_, _, hl ▸ walk_keys, fun H1 k => frz_on (K := X.K) hn hb k, fun i H1 x H2 n A hi k st hF y => ?_⟩
  obtain ⟨e, kk, v, ek, ex⟩ := y
  subst e ex
  refine ⟨Gr.refl _, kD kk, ?_, rep_kD kk⟩
  have e2 : (ys.map (·.1))[i]? = some kk := by rw [List.getElem?_map, ek]; rfl
  rw [r.keys] at e2
  rw [keysD, List.getElem?_map, e2]
  rfl
theorem vd_items {p : Ev → Option D} {elts : List Expr} {kk : Nat} {tpos apos cpos : Pos} (h : VP X O e p) (hbase : attributeBase e "items" X.env (eval e X.env) = eval e X.env := by rfl) (hline : (apos.endLine == cpos.line) = true := by rfl) : VD X O (.Tuple elts kk tpos) (.Call (.Attribute e "items" apos) [] [] cpos) p itemsD := by
  obtain ⟨t, pe, pv, h1, h2, h3⟩ := h
  refine ⟨pv, Iti, ⟨fun pins s σ H R I ⟨d, o, kvs, e1, e2, q⟩ => (pi_items pe hbase hline).run pins s σ H R I (h1 σ H _ _ e1 ⟨d, o, kvs, rfl, e2, q⟩)⟩, h2, h3, fun aS A0 H0 σ H s n b o ys kvs S hn hb r => ?_⟩
  refine it_ypair walk_items (by rw [itemsD, List.length_map, r.length]) (fun H1 k => frz_on (K := X.K) hn hb k) fun i H1 A x y hi k hF ex ey => ?_
  cases e : ys[i]? with
  | none => rw [e] at ex; cases ex
  | some kv =>
    rw [e] at ex ey
    cases ex
    cases ey
    obtain ⟨d, ed, rd⟩ := RepK.at (RepK.mono (S.onBase k hF) _ _ r) e
    refine ⟨kD kv.1, d, ?_, rep_kD _, rd⟩
    rw [itemsD, List.getElem?_map, ed]
    rfl
theorem LK.unlock {K : PySem.W.Frag} {aS b : Addr} {A0 : A0T} {H0 H : Hp} {σ : L2.St} {s : Ev} {n : Nat} {o : Obj} {ys : List (Key × V)} {de : DE} {De : Ends} {O O' : List Nat} (S : SR K aS O A0 H0 σ H s n) (hn : ¬ AV aS A0 O σ b) (hb : H b = some (.dK ys)) (k : LK K aS O' OL A0 H0 de De) :
    LK K aS O' OL A0 (bare O σ (upd H b (.frz o (.dK ys)))) de ⟨fun σ' H' => H' b = some (.frz o (.dK ys)) ∧ De.nx σ' (upd H' b (.dK ys)), fun v H' => H' b = some (.frz o (.dK ys)) ∧ De.rt v (upd H' b (.dK ys)), fun σ' H' => H' b = some (.frz o (.dK ys)) ∧ De.bk σ' (upd H' b (.dK ys)), fun σ' H' => H' b = some (.frz o (.dK ys)) ∧ De.ct σ' (upd H' b (.dK ys))⟩ where
  nx := fun σ' H' s' n' S' q => ⟨S.atL hn hb S'.fr, k.nx _ _ _ _ (S.unlock hn hb S') q⟩
  rt := fun v H' d n' kp st r q => ⟨S.atL hn hb kp, k.rt _ _ _ _ (S.unkp hb kp) (st.unlock (S.atL hn hb kp)) (Rep.mono (sub_unlock (S.atL hn hb kp)) _ _ r) q⟩
  bk := fun σ' H' s' n' S' q => ⟨S.atL hn hb S'.fr, k.bk _ _ _ _ (S.unlock hn hb S') q⟩
  ct := fun σ' H' s' n' S' q => ⟨S.atL hn hb S'.fr, k.ct _ _ _ _ (S.unlock hn hb S') q⟩
theorem ps_or {st : Stmt} {t u : TS} (h : PS X st t) (h' : PS X st u) : PS X st (fun D σ H => t D σ H ∨ u D σ H) := ⟨fun pins s σ H D I q => q.elim (h.run pins s σ H D I) (h'.run pins s σ H D I)⟩
theorem pe_or {t u : TE} (h : PE X e t) (h' : PE X e u) : PE X e (fun σ H Q => t σ H Q ∨ u σ H Q) := ⟨fun pins s σ H D I q => q.elim (h.run pins s σ H D I) (h'.run pins s σ H D I)⟩
/-- locked at d -/
def tLockAt (d : Addr) (u : HO) (t : TS) : TS := fun D σ H => ∀ od, t ⟨fun σ' H' => H' d = some (.frz od u) ∧ D.nx σ' (upd H' d u), fun v H' => H' d = some (.frz od u) ∧ D.rt v (upd H' d u), fun σ' H' => H' d = some (.frz od u) ∧ D.bk σ' (upd H' d u), fun σ' H' => H' d = some (.frz od u) ∧ D.ct σ' (upd H' d u)⟩ σ (upd H d (.frz od u))
def sForD (p : Ev → Option D) (f : List (Key × D) → List D) (g : DG) (mb : SM) : SM := fun xq de s n => ∃ kvs, p s = some (.dic kvs) ∧ sForL g mb xq de (f kvs) s n
/-- a statement while the thing at d is locked; d was not locked at the def's entry -/
theorem ps_lockN {st : Stmt} {t : TS} (h : PS X st t) : PS X st (fun D σ H => ∃ d u, H d = some u ∧ Mut (some u) ∧ ((∀ o' u', X.H_0 d ≠ some (.frz o' u')) → tLockAt d u t D σ H)) := by
  refine ⟨fun pins s σ H D I hw => ?_⟩
  obtain ⟨d, u, hd, mu, hw⟩ := hw
  have z : tLock t D σ H := ⟨d, u, hd, mu, hw (I.nofrz hd mu)⟩
  exact (ps_lock h).run pins s σ H D I z
theorem LX.unlock {K : PySem.W.Frag} {aS b : Addr} {A0 : A0T} {H0 H : Hp} {σ : L2.St} {s : Ev} {n : Nat} {o : Obj} {ys : List (Key × V)} {O : List Nat} {xq : XQ} (uc : UC X E) (hz : ∀ o' u', X.H_0 b ≠ some (.frz o' u')) (S : SR K aS O A0 H0 σ H s n) (hn : ¬ AV aS A0 O σ b) (hb : H b = some (.dK ys)) (L : LX K E aS A0 H0 xq) :
    LX K E aS A0 (bare O σ (upd H b (.frz o (.dK ys)))) xq := fun C fs n' d H' kp st r q => by
  have hl := S.atL hn hb kp
  refine uc _ _ _ b o _ hl hz (L C fs n' d _ (S.unkp hb kp) (st.unlock hl) ?_ q)
  cases d with
  | none => exact r
  | some a =>
    obtain ⟨zs, h1, h2, h3⟩ := r
    have hab : a ≠ b := fun z => by rw [z, hl] at h2; cases h2
    refine ⟨zs, ?_, by rw [upd_ne hab]; exact h2, RepF.mono (sub_unlock hl) _ _ h3⟩
    cases e : H0 a with
    | none => rfl
    | some u =>
      have hs : a ≠ aS := fun z => by
        obtain ⟨xs, q⟩ := st.lst
        rw [z, q] at h2
        cases h2
      have no : ¬ ∃ i, i ∈ O ∧ σ[i]? = some (some (.ref a)) := fun ⟨i, hi, ei⟩ => by
        obtain ⟨d1, a1, z1, z2, z3, _⟩ := S.ow i hi
        rw [ei] at z2
        cases z2
        rw [e] at z3
        cases z3
      rw [bare_not no, upd_ne hab] at h1
      exact (KpS.gone S.fr h1 e hs).elim
theorem vs_forD {p : Ev → Option D} {f : List (Key × D) → List D} {body : List Stmt} (uc : UC X E) (hp : PassesOwn (model X.prog X.w) X.A X.env X.xe) (hc : X.calm = true) (hi : VD X O tg iter p f) (hg : VG X O vs tg g) (hb : VSs X E O O O body mb)
    (hs : ∀ x, foldedSetIterable iter X.env x = pure x := by intro _; rfl) : VS X E O O OL (.For tg iter body [] pos) (sForD p f g mb) := by
  obtain ⟨pv, J, pi, h2, h3, h4⟩ := hi
  obtain ⟨_, gt, pg, fg⟩ := hg
  obtain ⟨tb, pb, fb⟩ := hb
  have ps := ps_for (pos := pos) hp hc pi pg pb hs
  refine ⟨_, ps_or ps (ps_lockN ps), fun aS A0 H0 σ H s n xq de De S L k h => ?_⟩
  obtain ⟨kvs, e, q⟩ := h
  obtain ⟨v, ev, r⟩ := h2 aS A0 H0 σ H s n _ S e
  rw [Rep] at r
  obtain ⟨b, ys, eb, hn, hr, rk⟩ := r
  subst eb
  rcases hr with hr | ⟨o, hr⟩
  · refine .inr ⟨b, _, hr, trivial, fun hz od => ⟨b, od, ys, ?_, upd_same, ?_⟩⟩
    · exact h3 σ H b od _ _ hr plain_dK ev
    · have Sl := S.lock (o := od) hn hr
      exact for_fin fg fb Sl (LX.unlock uc hz S hn hr L) (k.unlock S hn hr) (h4 aS A0 _ σ _ s n b od ys kvs Sl hn upd_same (RepK.mono (sub_lock hr) _ _ rk)) q
  · exact .inl ⟨b, o, ys, ev, hr, for_fin fg fb S L k (h4 aS A0 H0 σ H s n b o ys kvs S hn hr rk) q⟩
end
end DL
namespace DL
open PySem PySem.Spec PyProof.Rows L2
variable [TabC]
/-! ### defs that hand back a new object -/
section
variable {X : Cx} {E : XK} {O O' : List Nat} {e : Expr} {st : Stmt} {rest : List Stmt} {m : EM D} {ms mr : SM} {pos : Pos} {i : Nat}
variable {P : Program} {w : World} {K : PySem.W.Frag} {mg : Str → Option Value} {base : Heap} {x qual : Str} {params : Arguments} {body : List Stmt} {scope : Scope} {dvs : List V} {kws : List (Str × V)} {f : Addr} {fd : FuncData}
end
section
variable {X : Cx} {E : XK} {O : List Nat} {e : Expr} {es : List Expr} {ml : EM (List D)} {pos p : Pos} {x : Str} {f : Addr} {fd : FuncData} {ps : List Str} {k : Nat} {sp : FSp} {dds : List D} {dvs : List V} {us : List Value}
end
end DL
namespace DL
open PySem PySem.Spec PyProof.Rows L2
variable [TabC]
/-! ### defs by their global names -/
def GFn (P : Program) (w : World) (K : PySem.W.Frag) (mg : Str → Option Value) (base : Heap) (x : Str) (k : Nat) (ps : List Str) (L : Sp) : Prop := ∃ f fd, mg x = some (.ref f) ∧ PySem.W.keepIn K (.ref f) = true ∧ Binds K fd ps [] ∧ FnOk P w K mg base (CX P w) k f fd ps L
theorem Room.le {k k' : Nat} {A : Around} (h : Room k' A) (hk : k ≤ k') : Room k A := ⟨h.hd, by have := h.dp; omega, by have := h.un; omega⟩
theorem Room.u {k : Nat} {A : Around} (h : Room k A) : A.units + 1 < cLine := by have := h.un; omega
theorem Room.u64 {k : Nat} {A : Around} (h : Room k A) : A.units + 64 < cLine := by have := h.un; omega
theorem Room.u65 {k : Nat} {A : Around} (h : Room k A) : A.units + 65 < cLine := by have := h.un; omega
section
variable {X : Cx} {E : XK} {O : List Nat} {e : Expr} {es : List Expr} {ml : EM (List D)} {pos p : Pos} {x : Str} {ps : List Str} {k k' : Nat} {sp : FSp}
theorem ve_g (tk : TK X E) {len : Nat} (hl : ps.length = len) (G : GFn X.prog X.w X.K X.mg X.base x k ps (lift X.K len sp)) (hr : Room k' X.A) (hk : k ≤ k') (hg : Gl X x) (ha : VA Rep X E O (e :: es) ml) (hdb : (x == ("__debug__" : Str)) = false := by decide)
    (he : starEach (e :: es) X.env = (false, eval e X.env) :: starEach es X.env := by rfl) (hpl : (backTo pos (starEach es X.env)).any (·.1) = false := by rfl) : VE X E O (.Call (.Name x p) (e :: es) [] pos) (eCall len sp [] ml) := by
  subst hl
  obtain ⟨f, fd, h1, h2, h3, h4⟩ := G
  exact ve_call tk h4 (DL.Room.le hr hk) hg h1 h2 h3 .nil (fun _ _ _ => RepL.nil) ha hdb he hpl
end
section
variable {P : Program} {w : World} {K : PySem.W.Frag} {mg : Str → Option Value} {base : Heap} {x : Str} {params : Arguments} {body : List Stmt} {scope : Scope} {f : Addr} {fd : FuncData}
/-- a call's own context -/
abbrev CxD (P : Program) (w : World) (K : PySem.W.Frag) (mg : Str → Option Value) (base : Heap) (N : List Str) (qual : Str) (scope : Scope) (f : Addr) (cdv : Value) (A : Around) (outer : List Env) (s : Shared) (H : Hp) (E : XK) : Cx := cxOf (CX P w) P w K mg base N qual scope f cdv A outer s H E
theorem cx_tk {N : List Str} {qual : Str} {scope : Scope} {f : Addr} {cdv : Value} {A : Around} {outer : List Env} {s : Shared} {H : Hp} {E : XK} : TK (CxD P w K mg base N qual scope f cdv A outer s H E) (EU H E) := tk_eu (X := CxD P w K mg base N qual scope f cdv A outer s H E) (takes_of rfl rfl rfl rfl)
theorem cx_po {N : List Str} {qual : Str} {scope : Scope} {f : Addr} {cdv : Value} {A : Around} {outer : List Env} {s : Shared} {H : Hp} {E : XK} : PassesOwn (model P w) (CxD P w K mg base N qual scope f cdv A outer s H E).A (CxD P w K mg base N qual scope f cdv A outer s H E).env (CxD P w K mg base N qual scope f cdv A outer s H E).xe := passes_of rfl
theorem cx_uc {N : List Str} {qual : Str} {scope : Scope} {f : Addr} {cdv : Value} {A : Around} {outer : List Env} {s : Shared} {H : Hp} {E : XK} : UC (CxD P w K mg base N qual scope f cdv A outer s H E) (EU H E) := uc_eu (X := CxD P w K mg base N qual scope f cdv A outer s H E)
def Body (P : Program) (w : World) (K : PySem.W.Frag) (mg : Str → Option Value) (base : Heap) (N : List Str) (qual : Str) (scope : Scope) (k : Nat) (O O' : List Nat) (body : List Stmt) (m : SM) : Prop :=
  ∀ (f : Addr) (cdv : Value) (A : Around) (outer : List Env) (s : Shared) (H : Hp) (E : XK), Room k (A.deeper (envOfC qual scope s.heap.objs.size f cdv)) → VSs (CxD P w K mg base N qual scope f cdv A outer s H E) (EU H E) O O' [] body m
def Meets (len : Nat) (N : List Str) (sp : FSp) (m : SM) : Prop := ∀ ds n Q xq, ds.length = len → sp.run ds n Q xq → m xq { nx := fun _ n' => Q .non n', rt := Q } (startD N ds) n
def MeetsI (C : Str) (len : Nat) (N : List Str) (sp : FSp) (m : SM) : Prop := ∀ ds n Q xq, ds.length + 1 = len → sp.run ds n Q xq → m xq { nx := fun s' n' => ∃ fs, s'[0]? = some (some (.obj C fs)) ∧ Q (.obj C fs) n', rt := fun _ _ => False } (startD N (.obj C [] :: ds)) n
abbrev BindOk (x : Str) (params : Arguments) (body : List Stmt) (scope : Scope) (ps : List Str) : Prop := ∀ (kV doc pm : Value) (an : Option Addr) (cdv ct : Value) (us : List Value), us.length = ps.length → bindArgs (PySem.W.fnOf x x params body scope Value.none kV doc pm an cdv ct) { pos := us } = pure (ps.zip us)
theorem gfn {N ps : List Str} {k : Nat} {sp : FSp} {m : SM} {O' : List Nat} (F : FunD K x x params body scope [] [] f fd) (hg : mg x = some (.ref f)) (Sc : FnScope N ps scope) (hb : BindOk x params body scope ps)
    (B : Body P w K mg base N x scope k [] O' body m) (hm : Meets ps.length N sp m) : GFn P w K mg base x (k + 1) ps (lift K ps.length sp) :=
  ⟨f, fd, hg, F.kp, F.bindsN hb, dfn F Sc (fun cdv A outer s H E hr => B f cdv A outer s H E hr) hm⟩
end
end DL
namespace DL
open PySem PySem.Spec PyProof.Rows L2
variable [TabC]
/-! ### classes -/
def GMk (P : Program) (w : World) (K : PySem.W.Frag) (mg : Str → Option Value) (base : Heap) (x : Str) (C : Str) (k : Nat) (ps : List Str) (dds : List D) (sp : FSp) : Prop := ∃ f fd us dvs, mg x = some (.ref (He.ga K C)) ∧ Mk K (He.ga K C) f ∧ Binds K fd ps us ∧ Vals dvs us ∧ (∀ aS H A, RepL K aS H A dds dvs) ∧
  (∀ ds n Q xq, sp.run ds n Q xq → sp.run ds n (fun d n' => (∃ fs, d = .obj C fs) ∧ Q d n') xq) ∧ FnOk P w K mg base (CX P w) k f fd ps (liftI K C ps.length sp)
def GMe (P : Program) (w : World) (K : PySem.W.Frag) (mg : Str → Option Value) (base : Heap) (C : Str) (m : Str) (k : Nat) (ps : List Str) (dds : List D) (L : Sp) : Prop := ∃ f fd us dvs, Cls K (He.ga K C) ∧ Meth K (He.ga K C) m f ∧ Binds K fd ps us ∧ Vals dvs us ∧ (∀ aS H A, RepL K aS H A dds dvs) ∧ FnOk P w K mg base (CX P w) k f fd ps L
section
variable {X : Cx} {E : XK} {O : List Nat} {e o : Expr} {es : List Expr} {mo : EM D} {ml : EM (List D)} {pos p apos : Pos} {x m : Str} {C : Str} {ps : List Str} {k k' : Nat} {sp : FSp} {dds : List D}
theorem vf_mk (tk : TK X E) {len : Nat} (hl : ps.length = len) (G : GMk X.prog X.w X.K X.mg X.base x C k ps dds sp) (hr : Room k' X.A) (hk : k + 1 ≤ k') (hg : Gl X x) (ha : VA Rep X E O (e :: es) ml) (hdb : (x == ("__debug__" : Str)) = false := by decide)
    (he : starEach (e :: es) X.env = (false, eval e X.env) :: starEach es X.env := by rfl) (hpl : (backTo pos (starEach es X.env)).any (·.1) = false := by rfl) : VF X E O (.Call (.Name x p) (e :: es) [] pos) (eMake len sp dds ml) := by
  subst hl
  obtain ⟨f, fd, us, dvs, h1, h2, h3, h4, h5, h6, h7⟩ := G
  exact vf_make tk h2 h7 (DL.Room.le hr hk) hg h1 h3 h4 h5 h6 ha hdb he hpl
theorem ve_me (tk : TK X E) {len : Nat} {pl : Sem Bool} (hl : ps.length = len) (G : GMe X.prog X.w X.K X.mg X.base C m k ps dds (lift X.K len sp)) (hr : Room k' X.A) (hk : k ≤ k') (ho : VE X E O o mo) (ha : VA Rep X E O (e :: es) ml)
    (he : starEach (e :: es) X.env = (false, eval e X.env) :: starEach es X.env := by rfl) (hpl : (backTo pos (starEach es X.env)).any (·.1) = false := by rfl)
    (hev : eval ((o.Attribute m apos).Call (e :: es) [] pos) X.env = (do let ov ← eval o X.env; standAt apos.atName; let __x ← holding [ov] (getMethod ov m pl); match __x with | (f, first) => callWith pos f first (backTo pos (starEach (e :: es) X.env)) (backToKw pos (keywordEach [] X.env))) := by rfl) :
    VE X E O (.Call (.Attribute o m apos) (e :: es) [] pos) (eMeth C m len sp dds mo ml) := by
  subst hl
  obtain ⟨f, fd, us, dvs, h1, h2, h3, h4, h5, h6⟩ := G
  exact ve_meth (pe := fun _ _ => True) ho ha (fun p1 p2 => pe_meth p1 h1 h2 h6 (DL.Room.le hr hk) h3 h4 (passes_call tk fun _ _ _ _ h => h) p2 he hpl hev) h5
theorem ve_me0 (tk : TK X E) {len : Nat} {pl : Sem Bool} (hl : ps.length = len) (G : GMe X.prog X.w X.K X.mg X.base C m k ps dds (lift X.K len sp)) (hr : Room k' X.A) (hk : k ≤ k') (ho : VE X E O o mo)
    (hev : eval ((o.Attribute m apos).Call [] [] pos) X.env = (do let ov ← eval o X.env; standAt apos.atName; let __x ← holding [ov] (getMethod ov m pl); match __x with | (f, first) => callWith pos f first (backTo pos (starEach [] X.env)) (backToKw pos (keywordEach [] X.env))) := by rfl) :
    VE X E O (.Call (.Attribute o m apos) [] [] pos) (eMeth C m len sp dds mo eNil) := by
  subst hl
  obtain ⟨f, fd, us, dvs, h1, h2, h3, h4, h5, h6⟩ := G
  obtain ⟨mn1, t1, p1, f1⟩ := ho
  refine ⟨mn_meth mn1 (fun _ _ _ _ _ hq h => hq _ _ h), _, pe_meth0 p1 h1 h2 h6 (DL.Room.le hr hk) h3 h4 (passes_call tk fun _ _ _ _ h => h) hev, fun aS A0 H0 σ H s n xq Q S L hm => ?_⟩
  refine f1 aS A0 H0 σ H s n xq _ S L (mn1 _ _ _ _ _ (fun d n1 q v H1 k1 st1 r1 => ?_) hm)
  obtain ⟨fs, ed, hlk, q⟩ := q
  subst ed
  have r1' := r1
  rw [Rep] at r1'
  obtain ⟨a, dx, ys, ev, na, hq, rf⟩ := r1'
  have hy : ys.lookup m = none := by
    rcases repF_look m rf with z | ⟨_, _, z, _⟩
    · exact z.2
    · rw [hlk] at z; cases z
  refine ⟨a, dx, ys, ev, hq, hy, ?_⟩
  subst ev
  exact (S.step k1 st1).call L q.1 (RepL.cons r1 (h5 aS H1 _)) (sp.mn _ _ _ _ _ (fun d n' w v H' kp st r => w v H' (k1.trans kp) st r) q.2)
end
end DL
namespace DL
open PySem PySem.Spec PyProof.Rows L2
variable [TabC]
def sSetF (i : Nat) (m : EM D) : SM := fun xq de s n => i < s.length ∧ sSet i m xq de s n
def sParFF (i j : Nat) (ma mb : EM D) : SM := fun xq de s n => i < s.length ∧ j < s.length ∧ sPar i j ma mb (fun _ _ => False) de s n
def eOwn (i : Nat) : EM (List D) := fun xq s n Q => ∃ ds, s[i]? = some (some (.lst ds)) ∧ Q ds n
def GOk (g : DG) : Prop := ∀ d s Q, g d s Q → ∃ s', Q s'
def GsOk (g : DGs) (n : Nat) : Prop := ∀ ds s Q, g ds s Q → ds.length = n ∧ ∃ s', Q s'
theorem gok_nm {i : Nat} : GOk (gNm i) := fun d s Q h => ⟨_, h⟩
theorem gsok_nil : GsOk gsNil 0 := fun ds s Q ⟨e, q⟩ => ⟨by rw [e]; rfl, _, q⟩
theorem gsok_cons {g : DG} {r : DGs} {n : Nat} (h : GOk g) (h2 : GsOk r n) : GsOk (gsCons g r) (n + 1) := fun ds s Q ⟨d, dr, e, q⟩ => by
  obtain ⟨s', q⟩ := h _ _ _ q
  obtain ⟨e2, q⟩ := h2 _ _ _ q
  exact ⟨by rw [e, List.length_cons, e2], q⟩
section
variable {X : Cx} {E : XK} {O OL : List Nat} {a b c e : Expr} {ma mb mc m : EM D} {pos : Pos} {i j : Nat} {x y : Str}
end
section
variable {X : Cx} {E : XK} {O OB OL vs hid hs : List Nat} {tg e iter kx : Expr} {ifs : List Expr} {m me mk : EM D} {mi : EM (List D)} {mt : EM Bool} {mb : SM} {g : DG} {scope : Scope} {pos : Pos} {own : List (Str × Nat)} {ws : List Nat}
theorem xf_lc (hh : own.map (·.2) ++ hid = hs) (hc : X.calm = true) (hN : X.N.Nodup) (hi : VI X E O OB hid tg iter mi) (ok : BlkOk X.N X.env.scope scope own) (hown : ∀ j ∈ own.map (·.2), j ∉ OB) (hws : ∀ j ∈ ws, j ∈ own.map (·.2))
    (hg : ∀ c : Bk, VG (Cx.bk X scope c) OB ws tg g) (ht : ∀ c : Bk, VTs (Cx.bk X scope c) EF OB ifs mt) (he : ∀ c : Bk, VE (Cx.bk X scope c) EF OB e me) (hs' : ∀ x, foldedSetIterable iter X.env x = pure x := by intro _; rfl) :
    VF X E O (.ListComp e [⟨tg, iter, ifs, 0⟩] scope pos) (eLc mi hs g mt me) := hh ▸ vf_lc hc hN hi ok hown hws hg ht he hs'
theorem xf_dc (hh : own.map (·.2) ++ hid = hs) (hc : X.calm = true) (hN : X.N.Nodup) (hi : VI X E O OB hid tg iter mi) (ok : BlkOk X.N X.env.scope scope own) (hown : ∀ j ∈ own.map (·.2), j ∉ OB) (hws : ∀ j ∈ ws, j ∈ own.map (·.2))
    (hg : ∀ c : Bk, VG (Cx.bk X scope c) OB ws tg g) (ht : ∀ c : Bk, VTs (Cx.bk X scope c) EF OB ifs mt) (hk : ∀ c : Bk, VE (Cx.bk X scope c) EF OB kx mk) (he : ∀ c : Bk, VE (Cx.bk X scope c) EF OB e me) (hs' : ∀ x, foldedSetIterable iter X.env x = pure x := by intro _; rfl) :
    VF X E O (.DictComp kx e [⟨tg, iter, ifs, 0⟩] scope pos) (eDc mi hs g mt mk me) := hh ▸ vf_dc hc hN hi ok hown hws hg ht hk he hs'
/-- over a list that a slot owns -/
theorem vi_ownS {x : Str} {i : Nat} (hO : O.filter (· != i) = OB) (hi : i ∈ O) (hN : X.N[i]? = some x) (hv : Vis X.env.scope x) (hd : (x == ("__debug__" : Str)) = false := by decide) (hcd : (x == ("__classdict__" : Str)) = false := by decide) :
    VI X E O OB [i] tg (.Name x pos) (eOwn i) := hO ▸ vi_own hi hN hv hd hcd
end
end DL
namespace DL
open PySem PySem.Spec PyProof.Rows L2
variable [TabC]
/-! ### the draws -/
abbrev rAbs : List V → Hp → VK → Prop := fun xs H Q => ∃ i, xs = [.int i] ∧ Q (.int (if i < 0 then -i else i)) H
abbrev rInt1 : List V → Hp → VK → Prop := fun xs H Q => (∃ i, xs = [V.int i] ∧ Q (V.int i) H) ∨ ∃ k, xs = [V.bl k] ∧ Q (V.int (if k = true then 1 else 0)) H
abbrev rLenT (K : PySem.W.Frag) : List V → Hp → VK → Prop := fun xs H Q => ∃ x n, xs = [x] ∧ LenV K x H n ∧ Q (V.int (n : Nat)) H
abbrev rAdd : R2 := rI0 fun i j => .int (i + j)
abbrev rMul : R2 := rI CMul fun i j => .int (i * j)
abbrev rMod : R2 := rI (fun _ j => 0 < j) fun i j => .int (i % j)
abbrev rDiv : R2 := rI CDivW fun i j => .int (i / j)
abbrev rPow : R2 := rI CPow fun i j => .int (i ^ j.toNat)
def tS (K : PySem.W.Frag) (j : Int) : TE := tOp (rIxL K) (tVar 0) (tC (.int j))
def tPut (te : TE) (j : Int) : TS := tAsg te (gSub (tVar 0) (tC (.int j)) rSetL)
def t_take (K : PySem.W.Frag) : TS :=
  tSeq (tPut (tOp rAdd (tS K 4) (tC (.int 1))) 4)
  (tSeq (tWhile (tAnd (tTest (tOp rEq (tS K 2) (tC (.int 0)))) (tTest (tOp (rI0 fun i j => .bl (decide (i < j))) (tS K 1) (tCB (rLenT K) (tCons (tS K 0) tNil)))))
    (tSeq (tAsg (tCB rAbs (tCons (tOp (rIxL K) (tS K 0) (tS K 1)) tNil)) (gName 2))
    (tSeq (tPut (tOp rAdd (tS K 1) (tC (.int 1))) 1)
      (tIfS (tTest (tOp (rI0 fun i j => .bl (decide (j ≤ i))) (tVar 2) (tOp rPow (tC (.int 10)) (tC (.int 18))))) (tPut (tVar 2) 2)
        (tPut (tOp rMod (tCB rInt1 (tCons (tOp rAdd (tOp rAdd (tOp rMul (tS K 3) (tC (.int 131))) (tVar 2)) (tC (.int 1))) tNil)) (tC (.int 2147483647))) 3)))))
  (tSeq (tIfS (tTest (tOp (rI0 fun i j => .bl (decide (j < i))) (tS K 2) (tC (.int 0))))
      (tSeq (tAsg (tOp rMod (tCB rInt1 (tCons (tS K 2) tNil)) (tVar 1)) (gName 3)) (tSeq (tPut (tOp rDiv (tS K 2) (tVar 1)) 2) (tRet (tVar 3)))) tNext)
  (tSeq (tAsg (tOp rMod (tCB rInt1 (tCons (tOp rPow (tOp rAdd (tOp rAdd (tS K 3) (tOp rMul (tC (.int 7919)) (tS K 4))) (tC (.int 5))) (tC (.int 3))) tNil)) (tC (.int 1000000007))) (gName 4))
  (tSeq (tAsg (tOp rMod (tCB rInt1 (tCons (tOp rPow (tOp rAdd (tVar 4) (tOp rMul (tC (.int 31)) (tS K 4))) (tC (.int 3))) tNil)) (tC (.int 998244353))) (gName 4))
    (tRet (tOp rMod (tCB rInt1 (tCons (tOp rDiv (tVar 4) (tC (.int 3))) tNil)) (tVar 1)))))))
def sp_take (cl : Str → Addr) : FSp := ⟨fun ds n Q _ => ∃ k : Int, ds = [.st, .int k] ∧ 0 < k ∧ k < 2 ^ 32 ∧ n < 2 ^ 32 ∧ ∀ r : Int, 0 ≤ r → r < k → Q (.int r) (n + 1), fun _ _ _ _ _ hq ⟨k, h1, h2, h3, h4, h⟩ => ⟨k, h1, h2, h3, h4, fun r a b => hq _ _ (h r a b)⟩⟩
section
variable {K : PySem.W.Frag} {aS a0 : Addr} {σ : L2.St} {H : Hp} {i g m d : Int}
abbrev l5 (a0 : Addr) (i g m d : Int) : List V := [.ref a0, .int i, .int g, .int m, .int d]
theorem tS_0 {Q : VK} (h : σ[0]? = some (some (.ref aS))) (hs : H aS = some (.lst (l5 a0 i g m d))) (q : Q (.ref a0) H) : tS K 0 σ H Q := ⟨.ref aS, h, aS, _, 0, _, rfl, rfl, SqL.of hs, rfl, q⟩
theorem tS_1 {Q : VK} (h : σ[0]? = some (some (.ref aS))) (hs : H aS = some (.lst (l5 a0 i g m d))) (q : Q (.int i) H) : tS K 1 σ H Q := ⟨.ref aS, h, aS, _, 1, _, rfl, rfl, SqL.of hs, rfl, q⟩
theorem tS_2 {Q : VK} (h : σ[0]? = some (some (.ref aS))) (hs : H aS = some (.lst (l5 a0 i g m d))) (q : Q (.int g) H) : tS K 2 σ H Q := ⟨.ref aS, h, aS, _, 2, _, rfl, rfl, SqL.of hs, rfl, q⟩
theorem tS_3 {Q : VK} (h : σ[0]? = some (some (.ref aS))) (hs : H aS = some (.lst (l5 a0 i g m d))) (q : Q (.int m) H) : tS K 3 σ H Q := ⟨.ref aS, h, aS, _, 3, _, rfl, rfl, SqL.of hs, rfl, q⟩
theorem tS_4 {Q : VK} (h : σ[0]? = some (some (.ref aS))) (hs : H aS = some (.lst (l5 a0 i g m d))) (q : Q (.int d) H) : tS K 4 σ H Q := ⟨.ref aS, h, aS, _, 4, _, rfl, rfl, SqL.of hs, rfl, q⟩
theorem gs_put {j : Int} {jj : Nat} {v : V} {Q : L2.St → Hp → Prop} (h : σ[0]? = some (some (.ref aS))) (hs : H aS = some (.lst (l5 a0 i g m d))) (hj : ixN 5 j = some jj) (q : Q σ (upd H aS (.lst ((l5 a0 i g m d).set jj v)))) : gSub (tVar 0) (tC (.int j)) rSetL v σ H Q :=
  ⟨.ref aS, h, aS, _, j, jj, rfl, rfl, hs, hj, q⟩
theorem pow3 {x : Int} (h0 : 0 ≤ x) (h : x < 2 ^ 63) : CPow x 3 := ⟨by decide, by decide, by omega⟩
theorem pow3b {x d : Int} (h0 : 0 ≤ x) (h1 : x < 1000000007) (h2 : 0 ≤ d) (h3 : d < 2 ^ 33) : CPow (x + 31 * (d + 1)) 3 := pow3 (by omega) (by omega)
theorem ifT {p : Prop} [Decidable p] {A B : Prop} (h : p) (a : A) : if decide p = true then A else B := by rw [if_pos (decide_eq_true h)]; exact a
theorem ifF {p : Prop} [Decidable p] {A B : Prop} (h : ¬ p) (a : B) : if decide p = true then A else B := by rw [if_neg (by rw [decide_eq_true_eq]; exact h)]; exact a
/-- all but the state is as it was -/
def EqS (aS : Addr) (H H' : Hp) : Prop := ∀ b, b ≠ aS → H' b = H b
theorem EqS.refl : EqS aS H H := fun _ _ => rfl
theorem EqS.kp {H' : Hp} (k : EqS aS H H') : KpS aS H H' := fun b u e z => .of ((k b z).trans e)
theorem eq_put {H0 : Hp} {o : HO} (k : EqS aS H0 H) : EqS aS H0 (upd H aS o) := fun b z => by rw [upd_ne z]; exact k b z
theorem EqS.tabs {H' : Hp} {xs : List V} {T : List (Addr × Str)} (k : EqS aS H H') (hs : H aS = some (.lst xs)) (t : LamX.Tabs T H) : LamX.Tabs T H' := fun p hp => by
  obtain ⟨ps, h1, h2, h3⟩ := t p hp
  refine ⟨ps, (k _ fun z => by rw [z, hs] at h1; cases h1).trans h1, h2, fun pos cv hc => ?_⟩
  obtain ⟨c, e1, e2⟩ := h3 pos cv hc
  refine ⟨c, e1, (k _ fun z => ?_).trans e2⟩
  rw [z, hs] at e2
  have e2 : some (HO.lst xs) = some (HO.ext _) := e2
  cases e2
theorem EqS.tba {H' : Hp} {xs ys : List V} (k : EqS aS H H') (hs : H aS = some (.lst xs)) (hs' : H' aS = some (.lst ys)) (t : TbA H) : TbA H' := ⟨k.tabs hs t.1, fun b ps e => by
  have nb : b ≠ aS := fun z => by rw [z, hs'] at e; cases e
  rw [k b nb] at e
  exact t.2 b ps e⟩
theorem pure_take (cl : Str → Addr) (vs : List V) (H : Hp) (Q : VK) (E : XK) (h : lift K 2 (sp_take cl) vs H Q E) : t_take K { nx := fun _ H' => Q .non H', rt := Q } (L2.start ["_law_state", "_law_many", "_law_cell", "_law_digit", "_law_mixed"] vs) H := by
  obtain ⟨aS, A0, ds, n, xq, hl, r, st, av, L, k, e, hk0, hk1, hn, q⟩ := h
  subst e
  rw [RepL] at r
  obtain ⟨v1, vr, e1, r1, r⟩ := r
  rw [RepL] at r
  obtain ⟨v2, vr2, e2, r2, r⟩ := r
  rw [RepL] at r
  simp only [Rep] at r1 r2
  subst r e2 e1 r1 r2
  have q : ∀ (r : Int) H', 0 ≤ r → r < k → EqS aS H H' → StA K aS H' (n + 1) → Q (.int r) H' := fun r H' a b kp st => q r a b (.int r) H' kp.kp st rep_int
  obtain ⟨a0, cs, i, g, m, d, hs, ha, ⟨o, ho⟩, hi, hg, hm0, hm1, hd0, hd1, htb⟩ := st
  have sta : ∀ {H' : Hp} {i g m : Int}, EqS aS H H' → H' aS = some (.lst (l5 a0 i g m (d + 1))) → 0 ≤ i → 0 ≤ g → 0 ≤ m → m < 2147483647 → StA K aS H' (n + 1) := fun {H' i g m} kp e h1 h2 h3 h4 => ⟨a0, cs, i, g, m, d + 1, e, ha, ⟨o, (kp _ ha).trans ho⟩, h1, h2, h3, h4, by omega, by omega, kp.tba hs e htb⟩
  have z0 : ∀ {c e1 e2 : Option V}, ([some (.ref aS), some (.int k), c, e1, e2] : L2.St)[0]? = some (some (.ref aS)) := rfl
  -- the count
  refine tS_4 (σ := [some (.ref aS), some (.int k), none, none, none]) rfl hs ⟨d, 1, rfl, rfl, gs_put rfl hs rfl ?_⟩
  have hs1 : upd H aS (.lst ((l5 a0 i g m d).set 4 (.int (d + 1)))) aS = some (.lst (l5 a0 i g m (d + 1))) := upd_same
  have kp1 : EqS aS H (upd H aS (.lst ((l5 a0 i g m d).set 4 (.int (d + 1))))) := eq_put EqS.refl
  -- the loop
  refine ⟨fun μ σ' H' => ∃ (i g m : Int) (c : Option V), σ' = [some (.ref aS), some (.int k), c, none, none] ∧ H' aS = some (.lst (l5 a0 i g m (d + 1))) ∧ EqS aS H H' ∧ 0 ≤ i ∧ 0 ≤ g ∧ 0 ≤ m ∧ m < 2147483647 ∧ μ = (cs.length - i).toNat,
    ⟨_, i, g, m, none, rfl, hs1, kp1, hi, hg, hm0, hm1, rfl⟩, fun μ σ' H' w => ?_⟩
  obtain ⟨i, g, m, c, rfl, hs, kp, hi, hg, hm0, hm1, hμ⟩ := w
  have ho' : H' a0 = some (.frz o (.lst (cs.map V.int))) := (kp _ ha).trans ho
  have rest : tSeq (tIfS (tTest (tOp (rI0 fun i j => .bl (decide (j < i))) (tS K 2) (tC (.int 0))))
      (tSeq (tAsg (tOp rMod (tCB rInt1 (tCons (tS K 2) tNil)) (tVar 1)) (gName 3)) (tSeq (tPut (tOp rDiv (tS K 2) (tVar 1)) 2) (tRet (tVar 3)))) tNext)
    (tSeq (tAsg (tOp rMod (tCB rInt1 (tCons (tOp rPow (tOp rAdd (tOp rAdd (tS K 3) (tOp rMul (tC (.int 7919)) (tS K 4))) (tC (.int 5))) (tC (.int 3))) tNil)) (tC (.int 1000000007))) (gName 4))
    (tSeq (tAsg (tOp rMod (tCB rInt1 (tCons (tOp rPow (tOp rAdd (tVar 4) (tOp rMul (tC (.int 31)) (tS K 4))) (tC (.int 3))) tNil)) (tC (.int 998244353))) (gName 4))
      (tRet (tOp rMod (tCB rInt1 (tCons (tOp rDiv (tVar 4) (tC (.int 3))) tNil)) (tVar 1))))) { nx := fun _ H' => Q .non H', rt := Q } [some (.ref aS), some (.int k), c, none, none] H' := by
    refine tS_2 rfl hs ⟨g, 0, rfl, rfl, _, rfl, ?_⟩
    by_cases hg0 : 0 < g
    · refine ifT hg0 ?_
      refine tS_2 rfl hs (.inl ⟨g, rfl, .int k, rfl, g, k, rfl, rfl, hk0, ?_⟩)
      refine tS_2 rfl hs ⟨.int k, rfl, g, k, rfl, rfl, ⟨hk0, ?_⟩, gs_put rfl hs rfl ⟨.int (g % k), rfl, q _ _ (Int.emod_nonneg _ (by omega)) (Int.emod_lt_of_pos _ hk0) (eq_put kp) (sta (eq_put kp) upd_same hi (Int.ediv_nonneg hg (by omega)) hm0 hm1)⟩⟩
      have : k.natAbs < 2 ^ 32 := by omega
      have h2 : k.natAbs.log2 < 32 := (Nat.log2_lt (by omega)).mpr this
      omega
    · refine ifF hg0 ?_
      have hp1 : 0 ≤ (m + 7919 * (d + 1) + 5) := by omega
      refine tS_3 rfl hs (tS_4 rfl hs ⟨7919, d + 1, rfl, rfl, .inl ⟨by decide, by decide⟩, m, _, rfl, rfl, _, 5, rfl, rfl, _, 3, rfl, rfl, pow3 (by omega) (by omega), .inl ⟨_, rfl, _, 1000000007, rfl, rfl, (show (0 : Int) < 1000000007 by decide), ?_⟩⟩)
      have x0 := Int.emod_nonneg ((m + 7919 * (d + 1) + 5) ^ (3 : Int).toNat) (show (1000000007 : Int) ≠ 0 by decide)
      have x1 := Int.emod_lt_of_pos ((m + 7919 * (d + 1) + 5) ^ (3 : Int).toNat) (show (0 : Int) < 1000000007 by decide)
      refine ⟨.int _, rfl, tS_4 rfl hs ⟨31, d + 1, rfl, rfl, .inl ⟨by decide, by decide⟩, _, _, rfl, rfl, _, 3, rfl, rfl, pow3b x0 x1 hd0 (by omega), .inl ⟨_, rfl, _, 998244353, rfl, rfl, (show (0 : Int) < 998244353 by decide), ?_⟩⟩⟩
      refine ⟨.int _, rfl, _, 3, rfl, rfl, ⟨by decide, by decide +kernel⟩, .inl ⟨_, rfl, .int k, rfl, _, k, rfl, rfl, hk0, q _ _ (Int.emod_nonneg _ (by omega)) (Int.emod_lt_of_pos _ hk0) kp (sta kp hs hi hg hm0 hm1)⟩⟩
  refine tS_2 rfl hs ⟨rfl, _, rfl, ?_⟩
  by_cases hg0 : g = 0
  · refine ifT (by rw [hg0]) ?_
    refine tS_1 rfl hs (tS_0 rfl hs ⟨.ref a0, cs.length, rfl, .inl ⟨_, .inl (.inr ⟨o, ho'⟩), by simp⟩, i, cs.length, rfl, rfl, _, rfl, ?_⟩)
    by_cases hlt : i < cs.length
    · refine ifT hlt ?_
      obtain ⟨j, rfl⟩ : ∃ j : Nat, i = j := ⟨i.toNat, by omega⟩
      have hj : j < cs.length := by omega
      have hat : atI (cs.map V.int) (j : Int) = some (.int cs[j]) := by
        unfold atI ixN
        rw [if_pos hi, List.length_map, if_pos hlt]
        simp [hj]
      refine ⟨fun σ' H' => ∃ (i' g m : Int) (c : Option V), σ' = [some (.ref aS), some (.int k), c, none, none] ∧ H' aS = some (.lst (l5 a0 i' g m (d + 1))) ∧ EqS aS H H' ∧ i' = j + 1 ∧ 0 ≤ g ∧ 0 ≤ m ∧ m < 2147483647, fun σ' H' z => ?_, ?_⟩
      · obtain ⟨i', g, m, c, e1, e2, e3, e4, e5, e6, e7⟩ := z
        exact ⟨(cs.length - i').toNat, by omega, i', g, m, c, e1, e2, e3, by omega, e5, e6, e7, rfl⟩
      · refine tS_0 rfl hs (tS_1 rfl hs ⟨a0, _, j, .int cs[j], rfl, rfl, .inl (.inr ⟨o, ho'⟩), hat, cs[j], rfl, ?_⟩)
        have hc0 : 0 ≤ (if cs[j] < 0 then -cs[j] else cs[j]) := by split <;> omega
        refine tS_1 (σ := [some (.ref aS), some (.int k), some (.int (if cs[j] < 0 then -cs[j] else cs[j])), none, none]) rfl hs ⟨j, 1, rfl, rfl, gs_put rfl hs rfl ?_⟩
        have hs2 : upd H' aS (.lst ((l5 a0 j g m (d + 1)).set 1 (.int (j + 1)))) aS = some (.lst (l5 a0 (j + 1) g m (d + 1))) := upd_same
        have kp2 : EqS aS H (upd H' aS (.lst ((l5 a0 j g m (d + 1)).set 1 (.int (j + 1))))) := eq_put kp
        refine ⟨.int _, rfl, 10, 18, rfl, rfl, ⟨by decide, by decide, by decide⟩, _, _, rfl, rfl, _, rfl, ?_⟩
        by_cases hbig : (10 : Int) ^ (18 : Int).toNat ≤ (if cs[j] < 0 then -cs[j] else cs[j])
        · refine ifT hbig ?_
          exact ⟨.int _, rfl, gs_put rfl hs2 rfl ⟨j + 1, _, m, _, rfl, upd_same, eq_put kp2, rfl, hc0, hm0, hm1⟩⟩
        · refine ifF hbig ?_
          refine tS_3 rfl hs2 ⟨m, 131, rfl, rfl, .inr ⟨by decide, by decide⟩, .int _, rfl, _, _, rfl, rfl, _, 1, rfl, rfl, .inl ⟨_, rfl, _, 2147483647, rfl, rfl, (show (0 : Int) < 2147483647 by decide), gs_put rfl hs2 rfl ⟨j + 1, g, _, _, rfl, upd_same, eq_put kp2, rfl, hg, Int.emod_nonneg _ (by decide), Int.emod_lt_of_pos _ (by decide)⟩⟩⟩
    · exact ifF hlt rest
  · exact ifF (fun z => hg0 (by cases z; rfl)) rest
end
end DL
namespace DL
open PySem PySem.Spec PyProof.Rows L2
variable [TabC]
/-! ### the first statement of a law -/
abbrev rListT (K : PySem.W.Frag) : List V → Hp → VK → Prop := fun xs H Q => ∃ p ys, xs = [.ref p] ∧ (SqL K H p ys ∨ SqT K H p ys) ∧ ∀ l, H l = none → Q (.ref l) (upd H l (.lst ys))
def t_fresh (K : PySem.W.Frag) : TS := tRet (tLst (tCons (tCB (rListT K) (tCons (tSl (rSlL K) (tVar 0) tNoPart (tPart (tC (.int 40)))) tNil)) (tCons (tC (.int 0)) (tCons (tC (.int 0)) (tCons (tC (.int 0)) (tCons (tC (.int 0)) tNil))))))
def spFresh (K : PySem.W.Frag) : Sp := fun vs H Q _ => ∃ (a : Addr) (ns : List Int), vs = [.ref a] ∧ SqL K H a (ns.map V.int) ∧ ∀ (l p : Addr) (cs : List Int) (H' : Hp), l ≠ p → H p = none → H l = none → Gr H H' → H' l = some (.lst (cs.map V.int)) → H' p = some (.lst (l5 l 0 0 0 0)) → Q (.ref p) H'
theorem cut_ints (ns : List Int) (lo hi : Option Int) : cutV (ns.map V.int) lo hi = (List.take (HT.sIx ns.length ns.length hi - HT.sIx ns.length 0 lo) (List.drop (HT.sIx ns.length 0 lo) ns)).map V.int := by
  unfold cutV
  rw [List.length_map, List.map_take, List.map_drop]
theorem pure_fresh {K : PySem.W.Frag} (vs : List V) (H : Hp) (Q : VK) (E : XK) (h : spFresh K vs H Q E) : t_fresh K { nx := fun _ H' => Q .non H', rt := Q } (L2.start ["_law_script"] vs) H := by
  obtain ⟨a, ns, rfl, hs, q⟩ := h
  refine ⟨.ref a, rfl, 40, rfl, a, _, rfl, hs, fun t ht => ?_⟩
  rw [cut_ints]
  generalize List.take (HT.sIx ns.length ns.length (some 40) - HT.sIx ns.length 0 none) (List.drop (HT.sIx ns.length 0 none) ns) = cs
  refine ⟨t, _, rfl, .inl (SqL.of upd_same), fun l hl => ⟨by rw [sizeLine_eq]; show 5 ≤ 16777216; decide, fun p hp => ?_⟩⟩
  have hlt : l ≠ t := fun z => by rw [z, upd_same] at hl; cases hl
  have hpl : p ≠ l := fun z => by rw [z, upd_same] at hp; cases hp
  have hpt : p ≠ t := fun z => by rw [z, upd_ne (Ne.symm hlt), upd_same] at hp; cases hp
  rw [upd_ne hlt] at hl
  rw [upd_ne hpl, upd_ne hpt] at hp
  have hl' : upd H t (.lst (cs.map V.int)) l = none := by rw [upd_ne hlt]; exact hl
  have hp' : upd (upd H t (.lst (cs.map V.int))) l (.lst (cs.map V.int)) p = none := by rw [upd_ne hpl, upd_ne hpt]; exact hp
  refine q l p cs _ (Ne.symm hpl) hp hl ((Gr.upd ht).trans ((Gr.upd hl').trans (Gr.upd hp'))) ?_ upd_same
  · rw [upd_ne (Ne.symm hpl)]
    exact upd_same
def spLaw (K : PySem.W.Frag) : Sp := fun vs H Q _ => ∃ (a : Addr) (ns : List Int), vs = [.ref a] ∧ SqL K H a (ns.map V.int) ∧ TbA H ∧ ∀ H', Q (.bl true) H'
/-- what stands at d is locked from here on -/
theorem pss_lock1 {X : Cx} {st : List Stmt} {t : TS} (h : PSs X st t) : PSs X st (fun D σ H => ∃ d u, H d = some u ∧ Mut (some u) ∧ ∀ od, t D σ (upd H d (.frz od u))) :=
  ⟨fun pins s σ H D inv ⟨d, u, at_, mu, run⟩ => Exists.elim (inv.lock at_ mu) fun od inv' => h.run pins s σ _ D inv' (run od)⟩
abbrev tFirst (K : PySem.W.Frag) : TS := tAsg (tCall (spFresh K) [] ET (tCons (tVar 0) tNil)) (gName 1)
section
variable {P : Program} {w : World} {K : PySem.W.Frag} {mg : Str → Option Value} {base : Heap} {x : Str} {params : Arguments} {st : Stmt} {rest : List Stmt} {scope : Scope} {f : Addr} {fd : FuncData}
theorem law_top {N : List Str} {k : Nat} {m : SM} {O' : List Nat} (F : FunD K x x params (st :: rest) scope [] [] f fd) (Sc : FnScope N ["_law_script"] scope) (hN : 2 ≤ N.length)
    (h1 : ∀ (cdv : Value) (A : Around) (outer : List Env) (s : Shared) (H : Hp) (E : XK), Room k (A.deeper (envOfC x scope s.heap.objs.size f cdv)) → PS (CxD P w K mg base N x scope f cdv A outer s H E) st (tFirst K))
    (hb : Body P w K mg base N x scope k [] O' rest m)
    (hm : m (fun _ _ => False) { nx := fun _ _ => False, rt := fun d _ => d = .bl true } (none :: some .st :: List.replicate (N.length - 2) none) 0) : FnOk P w K mg base (CX P w) (k + 1) f fd ["_law_script"] (spLaw K) := by
  refine F.ok Sc (fun vs H Q E h => ?_) (fun cdv A outer s H vs Q E hr h => ?_)
  · obtain ⟨a, ns, rfl, _⟩ := h
    rfl
  · obtain ⟨a, ns, rfl, hs, hT, hq⟩ := h
    obtain ⟨t, p, ft⟩ := hb f cdv A outer s H E hr
    refine ⟨_, pss_cons (h1 cdv A outer s H E hr) (pss_lock1 p), ?_⟩
    refine ⟨.ref a, rfl, a, ns, rfl, hs, fun l p cs H' hne hp hl kp hL hP => ?_⟩
    refine ⟨l, _, hL, trivial, fun od => ?_⟩
    obtain ⟨j, hj⟩ : ∃ j, N.length = j + 2 := ⟨N.length - 2, by omega⟩
    have es : (L2.start N [V.ref a]).set 1 (some (.ref p)) = some (.ref a) :: some (.ref p) :: List.replicate j none := by
      unfold L2.start
      have e : N.length - [V.ref a].length = j + 1 := by rw [hj]; rfl
      rw [e, List.replicate_succ]
      rfl
    show t _ ((L2.start N [V.ref a]).set 1 (some (.ref p))) _
    rw [es]
    have hj2 : N.length - 2 = j := by omega
    rw [hj2] at hm
    have hP' : upd H' l (.frz od (.lst (cs.map V.int))) p = some (.lst (l5 l 0 0 0 0)) := by rw [upd_ne (Ne.symm hne)]; exact hP
    have S : SR K p [] ⟨fun _ => False, none⟩ (upd H' l (.frz od (.lst (cs.map V.int)))) (some (.ref a) :: some (.ref p) :: List.replicate j none) (upd H' l (.frz od (.lst (cs.map V.int)))) (none :: some .st :: List.replicate j none) 0 := by
      refine ⟨by rw [List.length_cons, List.length_cons, List.length_cons, List.length_cons, List.length_replicate, List.length_replicate], fun i d e _ => ?_, (fun i hi => nomatch hi), (fun i j b hi => nomatch hi), KpS.refl, ⟨l, cs, 0, 0, 0, 0, hP', hne, ⟨od, upd_same⟩, by decide, by decide, by decide, by decide, by decide, by decide, tabs_poke ⟨hT.1.ext kp.1, fun b ps e => hT.2 b ps (kp.2 b ps e)⟩ hL (fun _ z => nomatch z) (fun _ _ z => by unfold LamX.CodeO at z; cases z)⟩, (fun a h => h.elim), (fun hi => nomatch hi)⟩
      match i, e with
      | 0, e => cases e
      | 1, e => cases e; exact ⟨_, rfl, by rw [Rep]⟩
      | i + 2, e =>
        have e : (List.replicate j (none : Option D))[i]? = some (some d) := e
        rw [List.getElem?_replicate] at e
        split at e <;> cases e
    refine ft p _ _ _ _ _ 0 (fun _ _ => False) _ _ S (fun _ _ _ _ _ _ _ _ z => z.elim) ?_ hm
    refine ⟨fun _ _ _ _ _ z => z.elim, fun v H'' d n kp st r e => ?_, fun _ _ _ _ _ z => z.elim, fun _ _ _ _ _ z => z.elim⟩
    have e : d = .bl true := e
    subst e
    rw [Rep] at r
    subst r
    exact hq H''
end
end DL
namespace DL
open PySem PySem.Spec PyProof.Rows L2
variable [TabC]
def dIs (x y : D) : Option D := match x, y with
  | .bl a, .bl b => some (.bl (a == b))
  | _, _ => dIsN x y
section
variable {X : Cx} {E : XK} {O OB OL vs hid hs : List Nat} {tg e iter kx : Expr} {ifs : List Expr} {m me mk : EM D} {mi : EM (List D)} {mt : EM Bool} {mb : SM} {g : DG} {scope : Scope} {pos : Pos} {own : List (Str × Nat)} {ws : List Nat}
theorem xs_setLc {i : Nat} {y : Str} {py spos : Pos} (hh : own.map (·.2) ++ hid = hs) (hiO : i ∉ O) (hi0 : i ≠ 0) (hy : X.N[i]? = some y) (hyl : X.env.scope.names.lookup y = some .local)
    (hsw : swapsWith (.ListComp e [⟨tg, iter, ifs, 0⟩] scope pos) (some (.Name y py)) spos.line X.env = pure true) (hc : X.calm = true) (hN : X.N.Nodup) (hi : VI X E O OB hid tg iter mi) (ok : BlkOk X.N X.env.scope scope own) (hown : ∀ j ∈ own.map (·.2), j ∉ OB) (hws : ∀ j ∈ ws, j ∈ own.map (·.2))
    (hg : ∀ c : Bk, VG (Cx.bk X scope c) OB ws tg g) (ht : ∀ c : Bk, VTs (Cx.bk X scope c) EF OB ifs mt) (he : ∀ c : Bk, VE (Cx.bk X scope c) EF OB e me) (hs' : ∀ x, foldedSetIterable iter X.env x = pure x := by intro _; rfl) :
    VS X E O (i :: O) OL (.Assign [.Name y py] (.ListComp e [⟨tg, iter, ifs, 0⟩] scope pos) spos) (sSetF i (eLc mi hs g mt me)) := hh ▸ vs_setLc hiO hi0 hc hN hy hyl hsw hi ok hown hws hg ht he hs'
end
end DL
namespace ES
open PySem PySem.Spec PyProof.Rows L2
/-! ### the first line of an own error's __init__: super().__init__(..) -/
/-- no new table -/
def NoT (H H' : Hp) : Prop := ∀ b ps, H' b = some (.tbl ps) → H b = some (.tbl ps)
theorem NoT.upd {H H' : Hp} {p : Addr} {o : HO} (k : NoT H H') (ho : ∀ ps, o ≠ .tbl ps) : NoT H (L2.upd H' p o) := fun b ps e => by
  by_cases z : b = p
  · rw [z, upd_same] at e
    exact (ho _ (Option.some.inj e)).elim
  · rw [upd_ne z] at e
    exact k b ps e
theorem NoT.refl (H : Hp) : NoT H H := fun _ _ h => h
/-- a wrapper that is kept in sight -/
def mwO (u a : Addr) : HO := .ext fun h => h.get? u = some (PySem.W.kxs_mw VI a)
theorem mwO_ok {P : Program} {w : World} {H : Hp} {h : Heap} {u a : Addr} (e : h.get? u = some (PySem.W.kxs_mw VI a)) : ObjOk P w H h u (mwO u a) := ⟨e, ⟨_, e⟩, fun h1 h2 z k => k _ z⟩
theorem mwO_at {P : Program} {w : World} {H : Hp} {h : Heap} {u a : Addr} (ok : HOk P w H h) (e : H u = some (mwO u a)) : h.get? u = some (PySem.W.kxs_mw VI a) := (ok u _ e).1
section
variable {X : Cx} {pins : List (Addr × Obj)} {σ : L2.St} {H : Hp} {s : Shared} {a C u : Addr} {E : Value → Shared → Prop} {A : Around}
theorem run_mw {us : List Value} {Q : Value → Shared → Prop} (T : OexC X.K C) (I : Inv X pins σ H s) (e : H a = some (exo a C none)) (hu : s.heap.get? u = some (PySem.W.kxs_mw VI a)) (hl : us.length ≤ sizeLine) (h : ∀ s', Inv X pins σ H s' → Q .none s') :
    wpAny (model X.prog X.w) A (call (.ref u) us) Q E s := by
  obtain ⟨nm, q, N, bs, bm, sn, sub, ab, col, dd, k0, k1, k2, k3, k5, hC, hbm⟩ := T.cls
  obtain ⟨t1, ho⟩ := exo_at I.hok e
  obtain ⟨hp, g, d, t, os⟩ := s
  have kC : hp.get? C = _ := I.kIn _ _ hC
  have same : upd H a (exo a C none) = H := funext fun b => by
    by_cases hb : b = a
    · rw [hb, upd_same, e]
    · rw [upd_ne hb]
  refine wpAny_call (codeAny_of_tree ?_)
  show wpAny _ A.in1 (callAny (.ref u) ⟨us, []⟩) _ _ _
  unfold callAny
  refine wpAny_bind (wpAny_load hu ?_)
  simp only [PySem.W.kxs_mw]
  refine PySem.W.KFB.if_so (by decide) ?_
  refine wpAny_bind (PySem.W.check_bound_init F.excBase_ValueError.toExcCallFacts kC ho rfl ?_)
  refine wpAny_bind (wpAny_pure (wpAny_pure ⟨plainId_quiet F.excBase_ValueError.init.plain _, codeAny_builtin F.excBase_ValueError.initEntry ?_⟩))
  refine PySem.W.exc_init_tree (cls := .ref C) (t0 := t1) (dv := none) (c2 := .none) (c3 := .none) (b4 := .bool false) ho hl fun h' k hx _ => ?_
  have J := I.write (t' := t) (x := a) (e := a) (o := exo a C none) (by rw [e]; exact True.intro) (.inl rfl) k ⟨_, hx⟩ (exo_ok hx)
  rw [same] at J
  exact h _ J
end
end ES
namespace ES
open PySem PySem.Spec PyProof.Rows L2
/-- what the written part says of the __init__ (at f) of the error class at C, the function F of the text -/
structure SupF (P : Program) (K : PySem.W.Frag) (C f : Addr) (F : NdefX.NF) : Prop where
  lk : ∃ (oc : Value) (od : Option Addr) (doc pm ctv : Value) (osl : Array (Option Value)), K.lookup f = some ⟨oc, od, .func (F.fd doc pm ctv), osl⟩
  code : PySem.W.codeIn K (.ref F.c) F.qual = true
  file : ∃ (ccl : Value) (cdd : Option Addr) (vs : Array Value) (ccs : Array (Option Value)) (fl : Str) (tf : Tok), K.lookup F.c = some ⟨ccl, cdd, .fields vs, ccs⟩ ∧ vs[2]? = some (.str fl tf) ∧ ((P.main.file : Str) == fl) = true
  cell : ∃ (cc : Addr) (o : Value) (d : Option Addr) (sl : Array (Option Value)), F.cl = [(("__class__" : Str), cc)] ∧ K.lookup cc = some ⟨o, d, .cell (some (.ref C)), sl⟩
  own : PySem.W.mroIn K C (.ref C) = some true
  ini : PySem.W.ks_superIn K C C "__init__" = some (some (.builtin VI))
  ve : PySem.W.subIn K (.ref C) (.type "ValueError") = some true
  third : PySem.W.nsIn K cStatics "thirdparty.any" = some none
  top : (P.main.scope.names.lookup ("super" : Str)).isSome = false
/-- its scope -/
structure SupS (slf0 : Str) (N ps : List Str) (F : NdefX.NF) : Prop where
  sc : NdefX.NScope N ps ["__class__"] F.scope
  sup : F.scope.names.lookup ("super" : Str) = some .globalImplicit
  cls : F.scope.names.lookup ("__class__" : Str) = some .free
  slf : F.scope.names.lookup slf0 = some .local
  par : ∃ ar : Arg, (F.params.posonlyargs ++ F.params.args).head? = some ar ∧ ar.arg = slf0
  fst : N[0]? = some slf0
abbrev supCall (e : Expr) (p0 p1 p2 p3 : Pos) : Expr := .Call (.Attribute (.Call (.Name "super" p0) [] [] p1) "__init__" p2) [e] [] p3
section
variable {CX : CXT} {P : Program} {w : World} {K : PySem.W.Frag} {mg : Str → Option Value} {base : Heap} {N ps : List Str} {F : NdefX.NF} {f C a : Addr} {A : Around} {outer : List Env} {s0 : Shared} {H0 : Hp} {E0 : XK} {self : Str}
theorem sup_line {σ : L2.St} {H : Hp} {s : Shared} {e : Expr} {ta : TA} {body : List Stmt} {p0 p1 p2 p3 : Pos} {Q : Value → Shared → Prop} {E : Value → Shared → Prop} {pl : Sem Bool} (T : OexC K C) (SF : SupF P K C f F) (SS : SupS self N ps F) (hm : mg "super" = none)
    (I : Inv (NdefX.ncx CX P w K mg base N F f A outer s0 H0 E0) [] σ H s) (h0 : σ[0]? = some (some (.ref a))) (ea : H a = some (exo a C none))
    (ha : PA (NdefX.ncx CX P w K mg base N F f A outer s0 H0 E0) [e] ta)
    (hta : ∀ H', (∀ b u, H b = some u → H' b = some u) → NoT H H' → ta σ H' fun vs H1 => vs.length ≤ 1000 ∧ H1 a = some (exo a C none) ∧ (∀ b u, H' b = some u → H1 b = some u) ∧ ∀ s', Inv (NdefX.ncx CX P w K mg base N F f A outer s0 H0 E0) [] σ H1 s' → Q .none s')
    (hE : E = (NdefX.ncx CX P w K mg base N F f A outer s0 H0 E0).xe)
    (he : starEach [e] (NdefX.envF F f s0.heap.objs.size) = (false, eval e (NdefX.envF F f s0.heap.objs.size)) :: starEach [] (NdefX.envF F f s0.heap.objs.size))
    (hev : eval (supCall e p0 p1 p2 p3) (NdefX.envF F f s0.heap.objs.size) = (do
      let ov ← attributeBase (.Call (.Name "super" p0) [] [] p1) "__init__" (NdefX.envF F f s0.heap.objs.size) (eval (.Call (.Name "super" p0) [] [] p1) (NdefX.envF F f s0.heap.objs.size))
      standAt p2.atName
      let (g, first) ← holding [ov] (getMethod ov "__init__" pl)
      callWith p3 g first (backTo p3 (starEach [e] (NdefX.envF F f s0.heap.objs.size))) [])) :
    PySem.wpAt (model P w) (NdefX.ncx CX P w K mg base N F f A outer s0 H0 E0).A (.func body (NdefX.envF F f s0.heap.objs.size)) (eval (supCall e p0 p1 p2 p3) (NdefX.envF F f s0.heap.objs.size)) Q E s := by
  obtain ⟨cc, oc, dc, slc, ecl, lkc⟩ := SF.cell
  obtain ⟨ocf, odf, doc, pm, ctv, osl, lkf⟩ := SF.lk
  obtain ⟨ccl, cdd, vs, ccs, fl, tf, lkco, hvs, hfl⟩ := SF.file
  obtain ⟨ar, har, hself⟩ := SS.par
  have hkI : K.In s.heap := I.kIn
  obtain ⟨mL, hns, hloc⟩ := I.loc
  have kf : ∀ x, (NdefX.envF F f s0.heap.objs.size).kindOf x = F.scope.names.lookup x := fun x => rfl
  obtain ⟨u0, r0, lk0⟩ := hloc 0 self (.ref a) SS.fst h0 (.inl SS.slf)
  obtain rfl : u0 = Value.ref a := r0
  have hself0 : mL self = some (.ref a) := by
    rcases lk0 with ⟨_, q⟩ | ⟨q, _⟩
    · exact q
    · have q : F.scope.names.lookup self = some .cell ∨ F.scope.names.lookup self = some .free := q
      rw [SS.slf] at q
      rcases q with q | q <;> cases q
  obtain ⟨nm, qn, NN, bs, bm, sn, sub, ab, col, dd, k0, k1, k2, k3, k5, hC, hbm⟩ := T.cls
  obtain ⟨t1, hoa⟩ := exo_at I.hok ea
  have hclsC : PySem.W.clsIn K C = some { name := nm, bases := bs, mro := .ref C :: bm, ns := NN, qualname := qn, hasDict := true, slotNames := sn, subclasses := sub, abstract := ab, collection := col, hasDel := false } := by
    unfold PySem.W.clsIn
    rw [hC] <;> rfl
  have kC := hkI _ _ hC
  refine PySem.ks_wpAt_MethodCall (pl := pl) ?_ hev
  refine PySem.ks_wpAt_super_base (fd := F.fd doc pm ctv) (ar := ar) (cc := F.c) SS.sup SS.cls rfl rfl (hkI _ _ lkf) rfl har rfl (hkI _ _ lkco) rfl hvs hfl SF.top ?_
  obtain ⟨mb, hb1, hb2⟩ := I.mod.blt
  refine PySem.W.ks_loadName_global SS.sc.kind SS.sup (Calls.loadGlobal_builtin (I.mod.glob.keeps I.bk) hm (hb1.keeps I.bk) ((hb2 _ (by decide)).trans PyProof.Rows.Boot.«super») ⟨rfl, ?_⟩)
  refine wpAny_loadName_free SS.sc.kind SS.cls (c := cc) (by show F.cl.lookup _ = _; rw [ecl]; rfl) ⟨_, hkI _ _ lkc, rfl⟩ ?_
  rw [hself]
  refine wpAny_loadName_local SS.sc.kind SS.slf hns hself0 ?_
  refine PySem.ks_wpAny_isType_cls kC rfl ⟨rfl, ?_⟩
  obtain ⟨hh, g, d, t, os⟩ := s
  refine PySem.ks_wpAny_call_super kC rfl hoa rfl (fun c z => by cases z) (PySem.W.looks_mroIn hkI SF.own) fun h' hso keep => ?_
  have I1 : Inv (NdefX.ncx CX P w K mg base N F f A outer s0 H0 E0) [] σ H ⟨h', g, d, t, os⟩ := I.kept (t' := t) keep
  have hoa1 := keep _ _ hoa
  have IA : PySem.W.InstAt h' a { cls := .ref C, dict := none, data := .fields #[.ref t1, .none, .none, .none, .bool false, .none] } C none := ⟨hoa1, rfl, rfl, trivial⟩
  have hsup : PySem.W.alongIn K "__init__" (((Value.ref C :: bm).dropWhile (· != .ref C)).drop 1) = some (some (.builtin VI)) := by
    have z := SF.ini
    unfold PySem.W.ks_superIn at z
    rw [hclsC] at z
    exact z
  refine PySem.W.kxs_getMethod PySem.W.kxs_ValueError hso (PySem.W.looks_opaque I1.kIn SF.third) (l₀ := .ref C :: bm) (fun A Q E s k q => wpAny_bind ((PySem.W.looks_clsIn I1.kIn hclsC) A _ E s k (wpAny_pure q))) rfl I1.kIn hsup
    (IA.type.andThen (PySem.W.looks_subIn I1.kIn SF.ve)) (PySem.W.ks_ne I1.kIn IA hclsC) rfl ?_
  -- the wrapper is laid
  have hgot : (h'.push (PySem.W.kxs_mw VI a)).get? h'.objs.size = some (PySem.W.kxs_mw VI a) := Heap.get?_push_at rfl rfl
  have hn : H h'.objs.size = none := I1.hok.fresh (Nat.le_refl _)
  have I2 : Inv (NdefX.ncx CX P w K mg base N F f A outer s0 H0 E0) [] σ (upd H h'.objs.size (mwO h'.objs.size a)) ⟨h'.push (PySem.W.kxs_mw VI a), g, d, t + 1, os⟩ :=
    I1.laid (t' := t + 1) (a := h'.objs.size) (o := mwO h'.objs.size a) (fun b o z => Heap.get?_push_of_some _ z) (Nat.le_refl _) (mwO_ok hgot)
  rw [he]
  refine PySem.W.kxs_callWith (i := VI) (x := a) rfl ?_
  refine PySem.Calls.evalArgs_plain ?_
  show wpAny _ _ (spliced (backTo p3 ((false, eval e (NdefX.envF F f s0.heap.objs.size)) :: starEach [] (NdefX.envF F f s0.heap.objs.size)))) _ _ _
  rw [← he, hE]
  refine thn (ha.run _ [] _ σ _ _ I2 (hta _ (fun b u z => by rw [upd_ne (ne_of_none z hn)]; exact z) ((NoT.refl H).upd fun ps z => by have z : HO.ext _ = HO.tbl ps := z; cases z))) fun us s1 ⟨vs, H1, I3, r1, hl, ea1, k1, q⟩ => ?_
  have hmw : s1.heap.get? h'.objs.size = some (PySem.W.kxs_mw VI a) := mwO_at I3.hok (k1 _ _ upd_same)
  refine ⟨hmw, ?_⟩
  exact run_mw T I3 ea1 hmw (by show us.length ≤ _; rw [← r1.length, sizeLine_eq]; omega) q
end
end ES
namespace ES
open PySem PySem.Spec PyProof.Rows L2
/-- what such an __init__ keeps: the object's dict holds fs (of the further arguments) -/
def spInit (C : Addr) (n : Nat) (fs : List V → List (Str × V)) : Sp := fun vs H Q _ => ∃ (a : Addr) (ws : List V), vs = .ref a :: ws ∧ ws.length = n ∧ H a = some (exo a C none) ∧
  ∀ (H' : Hp) (dx : Addr), (∀ b u, H b = some u → b ≠ a → H' b = some u) → NoT H H' → H dx = none → dx ≠ a → H' a = some (exo a C (some dx)) → H' dx = some (exd dx (fs ws)) → Q .non H'
section
variable {CX : CXT} {P : Program} {w : World} {K : PySem.W.Frag} {mg : Str → Option Value} {base : Heap} {N ps : List Str} {F : NdefX.NF} {f C : Addr} {slf0 : Str}
/-- an error's __init__ by its body: super().__init__(text), then the fields -/
theorem init_of {n k : Nat} {fs : List V → List (Str × V)} {x : Str} {rest : List Stmt} {p0 p1 p2 p3 p4 pc : Pos} {jc : Nat} {doc pm ctv oc : Value} {od : Option Addr} {osl : Array (Option Value)} (T : OexC K C) (SF : SupF P K C f F) (SS : SupS slf0 N ps F) (hm : mg "super" = none)
    (lk : K.lookup f = some ⟨oc, od, .func (F.fd doc pm ctv), osl⟩)
    (hb : F.body = .Expr (supCall (.Constant (.str x) jc pc) p0 p1 p2 p3) p4 :: rest) (hl : ps.length = n + 1)
    (hev : ∀ L, ∃ pl : Sem Bool, eval (supCall (.Constant (.str x) jc pc) p0 p1 p2 p3) (NdefX.envF F f L) = (do
      let ov ← attributeBase (.Call (.Name "super" p0) [] [] p1) "__init__" (NdefX.envF F f L) (eval (.Call (.Name "super" p0) [] [] p1) (NdefX.envF F f L))
      standAt p2.atName
      let (g, first) ← holding [ov] (getMethod ov "__init__" pl)
      callWith p3 g first (backTo p3 (starEach [.Constant (.str x) jc pc] (NdefX.envF F f L))) []))
    (hsw : ∀ L, swapsWith (supCall (.Constant (.str x) jc pc) p0 p1 p2 p3) none p4.line (NdefX.envF F f L) = pure false)
    (hrest : ∀ (A : Around) (outer : List Env) (s : Shared) (H : Hp) (E : XK), ∃ t, PSs (NdefX.ncx CX P w K mg base N F f A outer s H E) rest t ∧ ∀ (a : Addr) (ws : List V) (H1 : Hp) (D : Ends), ws.length = n → H1 a = some (exo a C none) →
      (∀ (dx : Addr) (H2 : Hp), H1 dx = none → dx ≠ a → (∀ b u, H1 b = some u → b ≠ a → H2 b = some u) → NoT H1 H2 → H2 a = some (exo a C (some dx)) → H2 dx = some (exd dx (fs ws)) → D.nx (NdefX.startF N (.ref a :: ws) [none]) H2) → t D (NdefX.startF N (.ref a :: ws) [none]) H1) :
    FnOk P w K mg base CX (k + 1) f (F.fd doc pm ctv) ps (spInit C n fs) := by
  have hlen : ∀ vs H Q E, spInit C n fs vs H Q E → vs.length = ps.length := fun vs H Q E ⟨a, ws, e, hw, _⟩ => by rw [e, List.length_cons, hw, hl]
  refine ⟨hlen, fun A outer s H args us vs Q E hr e0 hbd r hsp => ?_⟩
  have hvl := hlen _ _ _ _ hsp
  have lim : s.heap.NoLimit := e0.mod.nolimit.keeps fun b o z => (e0.bs b o z).1
  have KX : K.In s.heap := e0.mod.kin.keeps fun b o z => (e0.bs b o z).1
  obtain ⟨a, ws, ev, hws, ea, q⟩ := hsp
  subst ev
  obtain ⟨cc, occ, dcc, slc, ecl, lkc⟩ := SF.cell
  have CA : NdefX.CellsAt F.cl ["__class__"] [none] s.heap H := by
    refine ⟨rfl, fun y c z => ?_, fun y1 y2 c z1 z2 => ?_, fun i y z => ?_⟩
    · rw [ecl] at z
      have hc2 : c = cc := by
        simp only [List.lookup] at z
        split at z
        · exact (Option.some.inj z).symm
        · cases z
      subst hc2
      exact ⟨(e0.bs _ _ (e0.mod.kin _ _ lkc)).2, some (.ref C), _, KX _ _ lkc, rfl⟩
    · rw [ecl] at z1 z2
      simp only [List.lookup] at z1 z2
      split at z1
      · rename_i h1
        split at z2
        · rename_i h2
          exact (beq_iff_eq.mp h1).trans (beq_iff_eq.mp h2).symm
        · cases z2
      · cases z1
    · cases i with
      | zero =>
        have z : y = "__class__" := by simpa using z.symm
        subst z
        exact ⟨cc, by rw [ecl]; rfl, fun v z => by cases z⟩
      | succ i => simp at z
  refine codeAny_call_function hr.depth (KX _ _ lk) rfl SS.sc.co SS.sc.gen rfl (PySem.W.codeRec_of KX SF.code) (hbd _ _ _ _ ?_)
  refine wpAny_newFunctionEnv SS.sc.nocell (fun ⟨y, _⟩ hy => SS.sc.par y (List.of_mem_zip hy).1) (fun h1 hns hsb => ⟨lim.fresh _ hsb, ?_⟩) SS.sc.kind
  show codeAny _ _ (.func F.body (NdefX.envF F f s.heap.objs.size)) _ _
  refine PySem.ks_codeAny_funcAt ?_
  have kp : ∀ b o, s.heap.get? b = some o → h1.get? b = some o := fun b o z => hsb.extBut b o (Nat.ne_of_lt (Heap.lt_size z)) (Heap.get?_push_of_some _ z)
  obtain ⟨t, pt, ft⟩ := hrest A outer s H E
  have I : Inv (NdefX.ncx CX P w K mg base N F f A outer s H E) [] (NdefX.startF N (.ref a :: ws) [none]) H { s with heap := h1, toks := s.toks + (ps.zip us).length } := NdefX.inv_startN SS.sc hr.hd e0 hvl r CA hns kp
  obtain ⟨pl, hpl⟩ := hev s.heap.objs.size
  rw [hb]
  refine PySem.ks_wpAt_execs_cons (PySem.ks_wpAt_Expr_any ?_ I.quiet (hsw _))
  refine sup_line (ps := ps) (pl := pl) (ta := tCons (tC (.str x)) tNil) T SF SS hm I rfl ea (pa_cons pe_str pa_nil) (fun H' kH kT => ⟨show 1 ≤ 1000 by decide, kH _ _ ea, fun b u z => z, fun s' I' => ?_⟩) rfl rfl hpl
  refine wpAt_of_wpAny (wpAny_mono (pt.run [] s' _ H' { nx := fun _ H2 => Q .non H2, rt := Q } I' (ft a ws H' _ hws (kH _ _ ea) fun dx H2 ndx nea k2 kT2 e1 e2 => ?_)) (fun fl s2 hs => ?_) fun e2 s2 hs => hs)
  · refine q H2 dx (fun b u z nb => k2 b u (kH b u z) nb) (fun b ps z => kT b ps (kT2 b ps z)) ?_ nea e1 e2
    cases hd : H dx with
    | none => rfl
    | some u => rw [kH _ _ hd] at ndx; cases ndx
  · have fin : ∀ {σ' : L2.St} {H' : Hp} {v : V} {u : Value}, Inv (NdefX.ncx CX P w K mg base N F f A outer s H E) [] σ' H' s2 → L2.RelV v u → Q v H' → CE outer P w H s Q u s2 :=
      fun {σ' H' v u} J rv q => ⟨v, H', J.os, J.bare, J.base, J.hok, rv, q⟩
    cases fl with
    | ret u =>
      obtain ⟨v, σ', H', J, rv, z⟩ := hs
      exact fin J rv z
    | next =>
      obtain ⟨σ', H', J, z⟩ := hs
      exact fin (v := V.non) (u := Value.none) J rfl z
    | brk =>
      obtain ⟨_, _, _, z⟩ := hs
      exact False.elim z
    | cont =>
      obtain ⟨_, _, _, z⟩ := hs
      exact False.elim z
end
end ES
namespace ES
open PySem PySem.Spec PyProof.Rows L2
/-- fields by the names of parameters, the last one first -/
def fsGo {T : Type} : List (Str × T) → List Str → List T → List (Str × T)
  | acc, f :: fl, v :: vs => fsGo ((f, v) :: acc) fl vs
  | acc, _, _ => acc
def fsOf {T : Type} (fl : List Str) (vs : List T) : List (Str × T) := fsGo [] fl vs
theorem ono {e C : Addr} {d : Option Addr} : ∀ ps, exo e C d ≠ .tbl ps := fun ps z => by
  have z' : HO.ext _ = HO.tbl ps := z
  cases z'
theorem xno {dx : Addr} {fs : List (Str × V)} : ∀ ps, exd dx fs ≠ .tbl ps := fun ps z => by
  have z' : HO.ext _ = HO.tbl ps := z
  cases z'
section
variable {CX : CXT} {P : Program} {w : World} {K : PySem.W.Frag} {mg : Str → Option Value} {base : Heap} {N ps : List Str} {F : NdefX.NF} {f C : Addr} {slf0 : Str}
abbrev stF (slf0 fld y : Str) (p1 p2 p3 p4 : Pos) : Stmt := .Assign [.Attribute (.Name slf0 p1) fld p2] (.Name y p3) p4
/-- one field -/
theorem rest1 {fld y : Str} {p1 p2 p3 p4 : Pos} (T : OexC K C) (hf : PySem.W.findIn K (.ref C) fld = some none) (SS : SupS slf0 N ps F) (h1 : N[1]? = some y) (hy : F.scope.names.lookup y = some .local) (hd0 : (slf0 == ("__debug__" : Str)) = false) (hd1 : (y == ("__debug__" : Str)) = false) (hc0 : (slf0 == ("__classdict__" : Str)) = false) (hc1 : (y == ("__classdict__" : Str)) = false)
    (hsw : ∀ L, swapsWith (.Name y p3) (some (.Attribute (.Name slf0 p1) fld p2)) p4.line (NdefX.envF F f L) = pure false) (A : Around) (outer : List Env) (s : Shared) (H : Hp) (E : XK) :
    ∃ t, PSs (NdefX.ncx CX P w K mg base N F f A outer s H E) [stF slf0 fld y p1 p2 p3 p4] t ∧ ∀ (a : Addr) (ws : List V) (H1 : Hp) (D : Ends), ws.length = 1 → H1 a = some (exo a C none) →
      (∀ (dx : Addr) (H2 : Hp), H1 dx = none → dx ≠ a → (∀ b u, H1 b = some u → b ≠ a → H2 b = some u) → NoT H1 H2 → H2 a = some (exo a C (some dx)) → H2 dx = some (exd dx (fsOf [fld] ws)) → D.nx (NdefX.startF N (.ref a :: ws) [none]) H2) → t D (NdefX.startF N (.ref a :: ws) [none]) H1 := by
  refine ⟨_, pss_one (ps_ost (pe_var (i := 0) SS.fst (.inl SS.slf) hd0 hc0) (pe_var (i := 1) h1 (.inl hy) hd1 hc1) (hsw _)), fun a ws H1 D hl ea q => ?_⟩
  match ws, hl with
  | [v], _ =>
    refine ⟨v, rfl, .ref a, rfl, a, C, rfl, T, hf, .inl ⟨ea, fun dx nd na => q dx _ nd na (fun b u z nb => ?_) (((NoT.refl _).upd xno).upd ono) upd_same ?_⟩⟩
    · rw [upd_ne nb, upd_ne (ne_of_none z nd)]
      exact z
    · rw [upd_ne na, upd_same]
      rfl
end
end ES
namespace DL
open PySem PySem.Spec PyProof.Rows L2
variable [TabC]
/-! ### raise -/
/-- an error class of the program, made with the fields fl -/
def GEx (P : Program) (w : World) (K : PySem.W.Frag) (mg : Str → Option Value) (base : Heap) (x : Str) (k : Nat) (fl : List Str) : Prop := ∃ (fI : Addr) (fd : FuncData) (ps : List Str), mg x = some (.ref (He.ga K x)) ∧ OexC K (He.ga K x) ∧
  PySem.W.findIn K (.ref (He.ga K x)) "__init__" = some (some (.ref fI)) ∧ PySem.W.typeIn K (.ref fI) = some (.type "function") ∧ Binds K fd ps [] ∧ FnOk P w K mg base (CX P w) k fI fd ps (ES.spInit (He.ga K x) fl.length (ES.fsOf fl))
def sRaise (C : Str) (fl : List Str) (m : EM (List D)) : SM := fun xq de s n => m xq s n fun ds n1 => ds.length = fl.length ∧ xq (C, ES.fsOf fl ds) n1
section
variable {K : PySem.W.Frag} {aS : Addr} {H : Hp} {A : AS}
theorem repF_go : ∀ {fl : List Str} {ds : List D} {vs : List V} {a : List (Str × D)} {b : List (Str × V)}, RepF K aS H A a b → RepL K aS H A ds vs → RepF K aS H A (ES.fsGo a fl ds) (ES.fsGo b fl vs)
  | [], _, _, _, _, r, _ => r
  | f :: fl, [], vs, a, b, r, q => by
    rw [RepL] at q
    subst q
    exact r
  | f :: fl, d :: ds, vs, a, b, r, q => by
    rw [RepL] at q
    obtain ⟨v, vr, e, r1, q1⟩ := q
    subst e
    refine repF_go (fl := fl) (a := (f, d) :: a) (b := (f, v) :: b) ?_ q1
    rw [RepF]
    exact ⟨v, b, rfl, r1, r⟩
theorem repF_fs {fl : List Str} {ds : List D} {vs : List V} (q : RepL K aS H A ds vs) : RepF K aS H A (ES.fsOf fl ds) (ES.fsOf fl vs) := repF_go (by rw [RepF]) q
end
section
variable {X : Cx} {E : XK} {O O' OL : List Nat} {e : Expr} {es : List Expr} {ml : EM (List D)} {pos p rpos : Pos} {x : Str} {fl : List Str} {k k' : Nat}
theorem vs_raise (hc : X.calm = true) (tk : TK X E) (G : GEx X.prog X.w X.K X.mg X.base x k fl) (hr : Room k' X.A) (hk : k + 1 ≤ k') (hg : Gl X x) (ha : VA Rep X E O (e :: es) ml) (hfl0 : fl.length ≤ 1000 := by decide) (hdb : (x == ("__debug__" : Str)) = false := by decide)
    (he : starEach (e :: es) X.env = (false, eval e X.env) :: starEach es X.env := by rfl) (hpl : (backTo pos (starEach es X.env)).any (·.1) = false := by rfl) :
    VS X E O O' OL (.Raise (some (.Call (.Name x p) (e :: es) [] pos)) none rpos) (sRaise x fl ml) := by
  obtain ⟨fI, fd, ps, hm, T, iC, tI, hb, F1⟩ := G
  obtain ⟨mn, t, pa, ft⟩ := ha
  refine ⟨_, ps_raise hc tk (pmk_oex T iC tI F1 (DL.Room.le hr hk) hb .nil (passes_call tk_f fun _ _ _ _ h => h) hg hm pa hdb he hpl), fun aS A0 H0 σ H s n xq de De S L kk h => ?_⟩
  refine ft aS A0 H0 σ H s n xq _ S L (mn _ _ _ _ _ (fun ds n1 q vs H1 k1 st1 r1 => ?_) h)
  obtain ⟨hl, q⟩ := q
  have rL := RL.repL r1
  have hvl : vs.length = fl.length := by rw [rL.length]; exact hl
  have hfl : vs.length ≤ 1000 := by omega
  refine ⟨hfl, fun a na => ?_⟩
  rw [List.append_nil]
  refine ⟨a, vs, rfl, hvl, upd_same, fun H' dx kp kT nd nda e1 e2 => ⟨rfl, dx, _, e1, e2, ?_, ?_⟩⟩
  · rw [upd_ne nda] at nd
    exact nd
  · rw [upd_ne nda] at nd
    have up : ∀ b u, H1 b = some u → upd (del H' a) dx (.xd (ES.fsOf fl vs)) b = some u := fun b u z => by
      rw [upd_ne (ne_of_none z nd), del_ne (ne_of_none z na)]
      exact kp b u (by rw [upd_ne (ne_of_none z na)]; exact z) (ne_of_none z na)
    have noT : ∀ b ps, upd (del H' a) dx (.xd (ES.fsOf fl vs)) b = some (.tbl ps) → H1 b = some (.tbl ps) := fun b ps z => by
      by_cases zb : b = dx
      · rw [zb, upd_same] at z; cases z
      · rw [upd_ne zb] at z
        by_cases za : b = a
        · rw [za, del_same] at z; cases z
        · rw [del_ne za] at z
          have y := kT b ps z
          rw [upd_ne za] at y
          exact y
    have S1 := S.step k1 st1
    have kpS : KpS aS H1 (upd (del H' a) dx (.xd (ES.fsOf fl vs))) := fun b u z _ => .of (up b u z)
    refine L x (ES.fsOf fl ds) n1 (some dx) _ (S1.fr.trans kpS) (st1.kp ⟨up, noT⟩) ⟨_, ?_, upd_same, ?_⟩ q
    · cases z : H0 dx with
      | none => rfl
      | some u =>
        by_cases hs : dx = aS
        · obtain ⟨xs, z2⟩ := st1.lst
          rw [hs, z2] at nd
          cases nd
        · exact (KpS.gone S1.fr nd z (hs)).elim
    · refine RepF.mono (sub_le fun b z => av_nil b z) _ _ (repF_fs (rL.kp kpS st1 AV.st))
end
end DL
namespace TR
open PySem PySem.Spec PyProof.Rows L2
/-! ### several except clauses, with names and without -/
abbrev Hd := Value × Option Nat × (Addr → Value → Option Addr → TS)
section
variable {X : Cx} {body : List Stmt} {h₀ : ExceptHandler} {hds : List ExceptHandler} {l : List Hd} {pos : Pos} {tb : WX → TS} {Wout : WX}
end
end TR
namespace TR
open PySem PySem.Spec PyProof.Rows L2
/-! ### found = .. in an except clause -/
/-- what a clause makes of the error: a word with a field, with the list of a field, a word alone, a word with None, a field alone -/
inductive HV where
  | fld (w f : Str) | lst (w f : Str) | str (w : Str) | nonp (w : Str) | bare (f : Str)
/-! ### the def that tries what it got -/
/-- what it makes of the call: nothing (found stays None), a pair with a word -/
inductive OKF where
  | drop | told (w : Str)
section
variable {X : Cx}
end
end TR
namespace TR
open PySem PySem.Spec PyProof.Rows L2 DL LamX
variable [TabC]
/-! ### a lambda is made: what the heap becomes -/
section
variable {X : Cx} {pins : List (Addr × Obj)} {σ : L2.St} {H : Hp} {s : Shared}
end
section
variable {X : Cx}
end
end TR
namespace DL
open PySem PySem.Spec PyProof.Rows L2 LamX TR
variable [TabC]
/-! ### x(lambda: e) by data -/
abbrev HS := List (Str × Option Nat × HV)
section
variable {K : PySem.W.Frag} {aS : Addr} {H H0 H1 : Hp} {A0 : A0T} {O : List Nat} {σ : L2.St} {s : Ev} {n : Nat}
end
section
variable {X : Cx} {E : XK} {O : List Nat} {x : Str} {Ng : List Str} {sg : Scope} {g : Addr} {ok : OKF} {hs : HS} {params : Arguments} {body : Expr} {scope : Scope} {m : EM D} {k : Nat} {p lpos pos : Pos}
end
end DL
namespace DL
open PySem PySem.Spec PyProof.Rows L2 LamX TR
variable [TabC]
section
variable {X : Cx} {E : XK} {O : List Nat} {x : Str} {ok : OKF} {hs : HS} {params : Arguments} {body : Expr} {scope : Scope} {m : EM D} {k k' : Nat} {p lpos pos : Pos} {c P : Addr}
end
end DL
namespace HX
open PySem L2 He
/-! what is asked of an error's class -/
theorem oexB_ok {K : PySem.W.Frag} {C : Addr} (h : oexB K C = true) : OexC K C := by
  obtain ⟨h1, h⟩ := ba h
  obtain ⟨h2, h⟩ := ba h
  obtain ⟨h3, h⟩ := ba h
  obtain ⟨h4, h5⟩ := ba h
  refine ⟨?_, of_decide_eq_true h2, of_decide_eq_true h3, of_decide_eq_true h4, h5⟩
  unfold oexK at h1
  split at h1
  · rename_i dd cd sl lk
    split at h1
    · rename_i C' bm k0 k1 k2 k3 n k5 em es
      obtain ⟨a1, a2⟩ := ba h1
      obtain ⟨b1, b2⟩ := ba a1
      obtain ⟨c1, c2⟩ := ba a2
      obtain ⟨d1, d2⟩ := ba c1
      have e1 := of_decide_eq_true b1
      have e2 := of_decide_eq_true b2
      obtain ⟨nm, bs, mro, ns, qn, hd, sn, sub, ab, col, del⟩ := cd
      obtain ⟨sl⟩ := sl
      have em : mro = .ref C' :: bm := em
      have es : sl = [k0, k1, k2, k3, some (.builtin n), k5] := es
      have d1 : (!del) = true := d1
      have d2 : hd = true := d2
      have d1 : del = false := by cases del <;> first | rfl | cases d1
      clear a1 a2 b1 b2 c1 h1 h2 h3 h4 h5 h
      subst e1 e2
      rw [em, es, d1, d2] at lk
      exact ⟨nm, qn, ns, bs, bm, sn, sub, ab, col, dd, k0, k1, k2, k3, k5, lk, c2⟩
    · cases h1
  · cases h1
/-! its __init__ -/
theorem err_ok {P : Program} {K : PySem.W.Frag} {d : ErrD} (e : fnE K (d.f K) = d.val) (c : d.ok P K = true) (ht : (P.main.scope.names.lookup ("super" : Str)).isSome = false) : PySem.W.nsIn K mainGlobals d.x = some (some (.ref (ga K d.x))) ∧ OexC K (ga K d.x) ∧ PySem.W.findIn K (.ref (ga K d.x)) "__init__" = some (some (.ref (d.f K))) ∧ PySem.W.typeIn K (.ref (d.f K)) = some (.type "function") ∧
    (∀ g ∈ d.fl, PySem.W.findIn K (.ref (ga K d.x)) g = some none) ∧ ∃ (F : NdefX.NF) (oc : Value) (od : Option Addr) (doc pm ctv : Value) (osl : Array (Option Value)), ES.SupF P K (ga K d.x) (d.f K) F ∧ K.lookup (d.f K) = some ⟨oc, od, .func (F.fd doc pm ctv), osl⟩ ∧ F.name = "__init__" ∧ F.qual = d.qual ∧ F.params = d.params ∧ F.body = d.body ∧ F.scope = d.scope := by
  obtain ⟨c1, c⟩ := ba c
  obtain ⟨a1, a2⟩ := ba c1
  obtain ⟨c2, c⟩ := ba c
  obtain ⟨b1, b2⟩ := ba c2
  obtain ⟨c3, c⟩ := ba c
  obtain ⟨g1, g2⟩ := ba c3
  obtain ⟨c4, c⟩ := ba c
  obtain ⟨h1, h2⟩ := ba c4
  obtain ⟨h3, h4⟩ := ba c
  refine ⟨eqO_ok a1, oexB_ok a2, eqO_ok b1, of_decide_eq_true b2, fun g hg => eqO_ok (List.all_eq_true.mp h4 g hg), ?_⟩
  unfold codB at g1
  unfold fnE at e
  cases lk : K.lookup (d.f K) with
  | none => rw [lk] at g1; cases g1
  | some o =>
    obtain ⟨oc, od, dt, osl⟩ := o
    rw [lk] at g1 e
    cases dt with
    | func fd =>
      obtain ⟨n1, n2, n3, n4, n5, n6, n7, n8, n9, n10, n11, n12, n13, n14, n15⟩ := fd
      have e2 : (some (n1, n2, n3, n4, n5, n6, n7.map (·.1), n15, plainD ⟨n1, n2, n3, n4, n5, n6, n7, n8, n9, n10, n11, n12, n13, n14, n15⟩) : FnE) = some (("__init__" : Str), d.qual, d.params, FuncBody.stmts d.body, d.scope, mainGlobals, [("__class__" : Str)], builtinsNs, true) := e
      simp only [Option.some.injEq, Prod.mk.injEq] at e2
      obtain ⟨i1, i2, i3, i4, i5, i6, i7, i8, i9⟩ := e2
      obtain ⟨j1, j2⟩ := ba i9
      obtain ⟨j2, j3⟩ := ba j2
      have q1 : n8 = .none := of_decide_eq_true j1
      have q2 : n9 = .none := of_decide_eq_true j2
      have q3 : n12 = none := Option.isNone_iff_eq_none.mp j3
      clear j1 j2 j3 i9 e
      subst i1 i2 i3 i4 i5 i6 i8 q1 q2 q3
      obtain ⟨k1, k2⟩ := ba g1
      dsimp only at k1 k2
      cases n13 with
      | ref cd =>
        obtain ⟨l1, l2⟩ := ba k1
        have fil : ∃ (ccl : Value) (cdd : Option Addr) (vs : Array Value) (ccs : Array (Option Value)) (fl : Str) (tf : Tok), K.lookup cd = some ⟨ccl, cdd, .fields vs, ccs⟩ ∧ vs[2]? = some (.str fl tf) ∧ ((P.main.file : Str) == fl) = true := by
          split at l2
          · rename_i c1 c2 vs c3 lc
            split at l2
            · rename_i fl tf ev
              exact ⟨c1, c2, vs, c3, fl, tf, lc, ev, l2⟩
            · cases l2
          · cases l2
        have cel : ∃ (cc : Addr) (o : Value) (dd : Option Addr) (sl : Array (Option Value)), n7 = [(("__class__" : Str), cc)] ∧ K.lookup cc = some ⟨o, dd, .cell (some (.ref (ga K d.x))), sl⟩ := by
          split at k2
          · rename_i z cc
            split at k2
            · rename_i c1 c2 C' c3 lc
              have eC := of_decide_eq_true k2
              rw [eC] at lc
              have ez : z = ("__class__" : Str) := by simpa using i7
              exact ⟨cc, c1, c2, c3, by rw [ez], lc⟩
            · cases k2
          · cases k2
        refine ⟨⟨"__init__", d.qual, d.params, d.body, d.scope, n7, cd⟩, oc, od, n10, n11, n14, osl, ⟨⟨oc, od, n10, n11, n14, osl, lk⟩, l1, fil, cel, of_decide_eq_true g2, of_decide_eq_true h1, of_decide_eq_true h2, eqO_ok h3, ht⟩, rfl, rfl, rfl, rfl, rfl, rfl⟩
      | _ => cases k1
    | _ => cases g1
/-! ### the Hook -/
structure SaysE (P : Program) (fa : List Fa) (fn : List DefD) (er : List ErrD) (tf : List Defn) (ex : PySem.W.Frag → Bool) (w : World) (h : Heap) (K : PySem.W.Frag) : Prop where
  d : SaysD fa fn K
  more : ex K = true
  errs : er.map (fun e => fnE K (e.f K)) = er.map ErrD.val
  eok : ∀ e ∈ er, e.ok P K = true
  hd : ∀ p ∈ tf, PySem.W.codeHdIn K (cT K p).1 (cT K p).2 = true
  out : ∀ p ∈ tf, K.lookup (cT K p).2 = none
  empty : ∀ p ∈ tf, h.get? (cT K p).2 = some { cls := .none, data := .fields #[] }
theorem saysE_of {P : Program} {n : Nat} {fa : List Fa} {fn : List DefD} {er : List ErrD} {tf : List Defn} {ex : PySem.W.Frag → Bool} {w : World} {h : Heap} (e : obsE P n fa fn er tf ex h.get? = valE fn er) : SaysE P fa fn er tf ex w h (frT h.get? (asE h.get? n)) := by
  have e1 : obsD fa fn (frT h.get? (asE h.get? n)) = valD fn := congrArg (fun z : AlE => z.1) e
  have e2 := congrArg (fun z : AlE => z.2.1) e
  have e3 := congrArg (fun z : AlE => z.2.2) e
  obtain ⟨h1, h2⟩ := ba e2
  obtain ⟨h0, h1⟩ := ba h1
  have look : ∀ p ∈ tf, PySem.W.codeHdIn (frT h.get? (asE h.get? n)) (cT (frT h.get? (asE h.get? n)) p).1 (cT (frT h.get? (asE h.get? n)) p).2 = true ∧ ∃ o, h.get? (cT (frT h.get? (asE h.get? n)) p).2 = some o ∧ emptyTab o = true := fun p hp => by
    obtain ⟨h3, h4⟩ := ba (List.all_eq_true.mp h2 p hp)
    refine ⟨h3, ?_⟩
    revert h4
    cases h.get? (cT (frT h.get? (asE h.get? n)) p).2 with
    | none => intro z; cases z
    | some o => intro z; exact ⟨o, rfl, z⟩
  exact { d := e1, more := h0, errs := e3, eok := fun e he => List.all_eq_true.mp h1 e he, hd := fun p hp => (look p hp).1,
          out := fun p hp => let ⟨_, _, q, z⟩ := look p hp; frT_none q z,
          empty := fun p hp => let ⟨_, _, q, z⟩ := look p hp; by rw [q, emptyTab_eq z] }
theorem SaysE.err {P : Program} {fa : List Fa} {fn : List DefD} {er : List ErrD} {tf : List Defn} {ex : PySem.W.Frag → Bool} {w : World} {h : Heap} {K : PySem.W.Frag} (c : SaysE P fa fn er tf ex w h K) (i : Nat) {e : ErrD} (he : er[i]? = some e) : fnE K (e.f K) = e.val ∧ e.ok P K = true := by
  have z : (er.map fun e => fnE K (e.f K))[i]? = (er.map ErrD.val)[i]? := by rw [c.errs]
  rw [List.getElem?_map, List.getElem?_map, he] at z
  exact ⟨Option.some.inj z, c.eok e (List.mem_of_getElem? he)⟩
end HX
namespace HX
open PySem PySem.Spec PyProof.Rows L2 He DL
variable [TabC]
section
variable {P : Program} {w : World} {K : PySem.W.Frag} {mg : Str → Option Value} {base h : Heap} {d : ErrD} {slf0 fld y txt : Str} {jc : Nat} {pc p0 p1 p2 p3 p4 q1 q2 q3 q4 : Pos} {N ps : List Str}
/-- an error of one field -/
theorem gex1 (X : K.In h) (G : h.Ns mainGlobals mg) (z : fnE K (d.f K) = d.val ∧ d.ok P K = true) (ht : (P.main.scope.names.lookup ("super" : Str)).isSome = false) (fs : mg "super" = none)
    (hb : d.body = .Expr (ES.supCall (.Constant (.str txt) jc pc) p0 p1 p2 p3) p4 :: [ES.stF slf0 fld y q1 q2 q3 q4]) (hfl : d.fl = [fld]) (hN : N = [slf0, y, "__class__"]) (hps : ps = [slf0, y])
    (hsc : NdefX.nscB N ps ["__class__"] d.scope = true) (hsup : d.scope.names.lookup ("super" : Str) = some .globalImplicit) (hslf : d.scope.names.lookup slf0 = some .local) (hy : d.scope.names.lookup y = some .local)
    (hpar : ∃ ar : Arg, (d.params.posonlyargs ++ d.params.args).head? = some ar ∧ ar.arg = slf0) (hd0 : (slf0 == ("__debug__" : Str)) = false) (hd1 : (y == ("__debug__" : Str)) = false) (hc0 : (slf0 == ("__classdict__" : Str)) = false) (hc1 : (y == ("__classdict__" : Str)) = false)
    (hbind : ∀ (cl : List (Str × Addr)) (c : Addr) (doc pm ctv u v : Value), bindArgs (PySem.W.fnX "__init__" d.qual d.params d.body d.scope cl .none .none doc pm none (.ref c) ctv) { pos := [u, v] } = pure [(slf0, u), (y, v)])
    (hev : ∀ (F : NdefX.NF) (f L : Addr), F.scope = d.scope → F.qual = d.qual → ∃ pl : Sem Bool, eval (ES.supCall (.Constant (.str txt) jc pc) p0 p1 p2 p3) (NdefX.envF F f L) = (do
      let ov ← attributeBase (.Call (.Name "super" p0) [] [] p1) "__init__" (NdefX.envF F f L) (eval (.Call (.Name "super" p0) [] [] p1) (NdefX.envF F f L))
      standAt p2.atName
      let (g, first) ← holding [ov] (getMethod ov "__init__" pl)
      callWith p3 g first (backTo p3 (starEach [.Constant (.str txt) jc pc] (NdefX.envF F f L))) []))
    (hsw : ∀ (F : NdefX.NF) (f L : Addr), F.scope = d.scope → swapsWith (ES.supCall (.Constant (.str txt) jc pc) p0 p1 p2 p3) none p4.line (NdefX.envF F f L) = pure false)
    (hsw2 : ∀ (F : NdefX.NF) (f L : Addr), F.scope = d.scope → swapsWith (.Name y q3) (some (.Attribute (.Name slf0 q1) fld q2)) q4.line (NdefX.envF F f L) = pure false) : GEx P w K mg base d.x 1 [fld] := by
  obtain ⟨a1, T, a3, a4, a5, F, oc, od, doc, pm, ctv, osl, SF, lk, n1, n2, n3, n4, n5⟩ := err_ok z.1 z.2 ht
  have SS : ES.SupS slf0 N ps F := ⟨by rw [n5]; exact NdefX.nscope_by hsc, by rw [n5]; exact hsup, by rw [n5]; exact (NdefX.nscope_by hsc).frk _ (List.mem_singleton.mpr rfl), by rw [n5]; exact hslf, by rw [n3]; exact hpar, by rw [hN]; rfl⟩
  have hf : PySem.W.findIn K (.ref (ga K d.x)) fld = some none := a5 fld (by rw [hfl]; exact List.mem_singleton.mpr rfl)
  refine ⟨d.f K, F.fd doc pm ctv, ps, ?_, T, a3, a4, ?_, ?_⟩
  · exact He.glo_ok X G (show eqO _ _ = true from decide_eq_true a1)
  · refine .all fun us hl => ?_
    rw [hps] at hl ⊢
    match us, hl with
    | [u, v], _ =>
      have e := hbind F.cl F.c doc pm ctv u v
      rw [← n2, ← n3, ← n4, ← n5, ← n1] at e
      exact e
  · exact ES.init_of (n := 1) T SF SS fs lk (by rw [n4]; exact hb) (by rw [hps]; rfl) (fun L => hev F _ L n5 n2) (fun L => hsw F _ L n5) fun A outer s H E => ES.rest1 T hf SS (by rw [hN]; rfl) (by rw [n5]; exact hy) hd0 hd1 hc0 hc1 (fun L => hsw2 F _ L n5) A outer s H E
end
end HX
namespace DL
open PySem PySem.Spec PyProof.Rows L2
variable [TabC]
/-! ### readings that are plain functions -/
inductive Res (α : Type) where
  | ok (a : α) | ex (x : XD) | bad
def Res.bind {α β : Type} : Res α → (α → Res β) → Res β
  | .ok a, k => k a
  | .ex x, _ => .ex x
  | .bad, _ => .bad
/-- no error may leave -/
def Res.calm {α : Type} : Res α → Res α
  | .ok a => .ok a
  | _ => .bad
def ofO {α : Type} : Option α → Res α
  | some a => .ok a
  | none => .bad
def ofB : Option D → Res Bool
  | some (.bl b) => .ok b
  | _ => .bad
abbrev FM (α : Type) := Ev → Res α
def Res.wp {α : Type} (r : Res α) (xq : XQ) (n : Nat) (Q : α → Nat → Prop) : Prop := match r with
  | .ok a => Q a n
  | .ex x => xq x n
  | .bad => False
def up {α : Type} (f : FM α) : EM α := fun xq s n Q => (f s).wp xq n Q
theorem wp_bind {α β : Type} {r : Res α} {k : α → Res β} {xq : XQ} {n : Nat} {Q : β → Nat → Prop} (h : (r.bind k).wp xq n Q) : r.wp xq n fun a n' => (k a).wp xq n' Q := by
  cases r <;> exact h
theorem wp_ofO {α : Type} {o : Option α} {xq : XQ} {n : Nat} {Q : α → Nat → Prop} (h : (ofO o).wp xq n Q) : ∃ a, o = some a ∧ Q a n := by
  cases o with
  | none => exact h.elim
  | some a => exact ⟨a, rfl, h⟩
theorem wp_ofB {o : Option D} {xq : XQ} {n : Nat} {Q : Bool → Nat → Prop} (h : (ofB o).wp xq n Q) : ∃ k, o = some (.bl k) ∧ Q k n := by
  unfold ofB at h
  split at h
  · exact ⟨_, rfl, h⟩
  · exact h.elim
theorem wp_mono {α : Type} {r : Res α} {xq : XQ} {n : Nat} {Q Q' : α → Nat → Prop} (hq : ∀ a, Q a n → Q' a n) (h : r.wp xq n Q) : r.wp xq n Q' := by
  cases r with
  | ok a => exact hq a h
  | _ => exact h
theorem wp_if {α : Type} {c : Bool} {a b : Res α} {xq : XQ} {n : Nat} {Q : α → Nat → Prop} (h : (if c = true then a else b).wp xq n Q) : if c = true then a.wp xq n Q else b.wp xq n Q := by
  cases c <;> exact h
theorem wp_dec {α : Type} {p : Prop} [Decidable p] {a : Res α} {xq : XQ} {n : Nat} {Q : α → Nat → Prop} (h : (if p then a else .bad).wp xq n Q) : p ∧ a.wp xq n Q := by
  by_cases z : p
  · rw [if_pos z] at h
    exact ⟨z, h⟩
  · rw [if_neg z] at h
    exact h.elim
theorem mn_up {α : Type} {f : FM α} : Mn (up f) := fun xq s n Q Q' hq h => wp_mono (fun a => hq a n) h
section
variable {X : Cx} {E : XK} {O : List Nat} {R : RK}
theorem lo {e : Expr} {m : EM D} {f : FM D} (h : VX R X E O e m) (le : ∀ xq s n Q, up f xq s n Q → m xq s n Q) : VX R X E O e (up f) := by
  obtain ⟨mn, t, p, q⟩ := h
  exact ⟨mn_up, t, p, fun aS A0 H0 σ H s n xq Q S L hm => q aS A0 H0 σ H s n xq Q S L (le _ _ _ _ hm)⟩
theorem loF {e : Expr} {m : EM D} {f : FM D} (h : VF X E O e m) (le : ∀ xq s n Q, up f xq s n Q → m xq s n Q) : VF X E O e (up f) := by
  obtain ⟨mn, t, p, q⟩ := h
  exact ⟨mn_up, t, p, fun aS A0 H0 σ H s n xq Q S L hm => q aS A0 H0 σ H s n xq Q S L (le _ _ _ _ hm)⟩
theorem loT {e : Expr} {m : EM Bool} {f : FM Bool} (h : VT X E O e m) (le : ∀ xq s n Q, up f xq s n Q → m xq s n Q) : VT X E O e (up f) := by
  obtain ⟨mn, t, p, q⟩ := h
  exact ⟨mn_up, t, p, fun aS A0 H0 σ H s n xq Q S L hm => q aS A0 H0 σ H s n xq Q S L (le _ _ _ _ hm)⟩
theorem loTs {es : List Expr} {m : EM Bool} {f : FM Bool} (h : VTs X E O es m) (le : ∀ xq s n Q, up f xq s n Q → m xq s n Q) : VTs X E O es (up f) := by
  obtain ⟨mn, t, p, q⟩ := h
  exact ⟨mn_up, t, p, fun aS A0 H0 σ H s n xq Q S L hm => q aS A0 H0 σ H s n xq Q S L (le _ _ _ _ hm)⟩
theorem loA {es : List Expr} {m : EM (List D)} {f : FM (List D)} (h : VA R X E O es m) (le : ∀ xq s n Q, up f xq s n Q → m xq s n Q) : VA R X E O es (up f) := by
  obtain ⟨mn, t, p, q⟩ := h
  exact ⟨mn_up, t, p, fun aS A0 H0 σ H s n xq Q S L hm => q aS A0 H0 σ H s n xq Q S L (le _ _ _ _ hm)⟩
end
section
variable {xq : XQ} {s : Ev} {n : Nat} {a b c : FM D} {t u : FM Bool} {l : FM (List D)}
def fVar (i : Nat) : FM D := fun s => match s[i]? with
  | some (some d) => .ok d
  | _ => .bad
theorem le_var (i : Nat) : ∀ xq s n Q, up (fVar i) xq s n Q → eVar i xq s n Q := fun xq s n Q h => by
  unfold up fVar at h
  split at h
  · rename_i d e
    exact ⟨d, e, h⟩
  · exact h.elim
def fC (d : D) : FM D := fun _ => .ok d
theorem le_c {d : D} : ∀ xq s n Q, up (fC d) xq s n Q → eC d xq s n Q := fun _ _ _ _ h => h
def fNil : FM (List D) := fun _ => .ok []
theorem le_nil : ∀ xq s n Q, up fNil xq s n Q → eNil xq s n Q := fun _ _ _ _ h => h
def fCons (a : FM D) (l : FM (List D)) : FM (List D) := fun s => (a s).bind fun d => (l s).bind fun ds => .ok (d :: ds)
theorem le_cons : ∀ xq s n Q, up (fCons a l) xq s n Q → eCons (up a) (up l) xq s n Q := fun xq s n Q h => by
  unfold eCons up
  exact wp_mono (fun d h => wp_bind h) (wp_bind h)
def fTup (l : FM (List D)) : FM D := fun s => (l s).bind fun ds => if ds.length ≤ 1000 then .ok (.tup ds) else .bad
theorem le_tup : ∀ xq s n Q, up (fTup l) xq s n Q → eTup (up l) xq s n Q := fun xq s n Q h => by
  unfold eTup up
  exact wp_mono (fun d h => wp_dec h) (wp_bind h)
def fLst (l : FM (List D)) : FM D := fun s => (l s).bind fun ds => if ds.length ≤ 1000 then .ok (.lst ds) else .bad
theorem le_lst : ∀ xq s n Q, up (fLst l) xq s n Q → eLst (up l) xq s n Q := fun xq s n Q h => by
  unfold eLst up
  exact wp_mono (fun d h => wp_dec h) (wp_bind h)
def fBin (f : D → D → Option D) (a b : FM D) : FM D := fun s => (a s).bind fun x => (b s).bind fun y => ofO (f x y)
theorem le_bin {f : D → D → Option D} : ∀ xq s n Q, up (fBin f a b) xq s n Q → eBin f (up a) (up b) xq s n Q := fun xq s n Q h => by
  unfold eBin up
  exact wp_mono (fun d h => wp_mono (fun _ h => wp_ofO h) (wp_bind h)) (wp_bind h)
def fBinT (f : D → D → Option D) (a b : FM D) : FM Bool := fun s => (a s).bind fun x => (b s).bind fun y => ofB (f x y)
theorem le_binT {f : D → D → Option D} : ∀ xq s n Q, up (fBinT f a b) xq s n Q → eBinT f (up a) (up b) xq s n Q := fun xq s n Q h => by
  unfold eBinT up
  exact wp_mono (fun d h => wp_mono (fun _ h => wp_ofB h) (wp_bind h)) (wp_bind h)
def fBlt (f : List D → Option D) (l : FM (List D)) : FM D := fun s => (l s).bind fun ds => ofO (f ds)
theorem le_blt {f : List D → Option D} : ∀ xq s n Q, up (fBlt f l) xq s n Q → eBlt f (up l) xq s n Q := fun xq s n Q h => by
  unfold eBlt up
  exact wp_mono (fun d h => wp_ofO h) (wp_bind h)
/-- a truth -/
def asB : D → Res Bool
  | .bl b => .ok b
  | _ => .bad
theorem wp_asB {d : D} {xq : XQ} {n : Nat} {Q : Bool → Nat → Prop} (h : (asB d).wp xq n Q) : ∃ c, d = .bl c ∧ Q c n := by
  unfold asB at h
  split at h
  · exact ⟨_, rfl, h⟩
  · exact h.elim
def fOr (a b : FM D) : FM D := fun s => (a s).bind fun x => (asB x).bind fun c => if c = true then .ok (.bl true) else b s
theorem le_or : ∀ xq s n Q, up (fOr a b) xq s n Q → eOr (up a) (up b) xq s n Q := fun xq s n Q h => by
  unfold eOr up
  exact wp_mono (fun d h => by
    obtain ⟨c, e, q⟩ := wp_asB (wp_bind h)
    exact ⟨c, e, wp_if q⟩) (wp_bind h)
def fIf (t : FM Bool) (a b : FM D) : FM D := fun s => (t s).bind fun c => if c = true then a s else b s
theorem le_if : ∀ xq s n Q, up (fIf t a b) xq s n Q → eIf (up t) (up a) (up b) xq s n Q := fun xq s n Q h => by
  unfold eIf up
  exact wp_mono (fun d h => wp_if h) (wp_bind h)
def fVal (a : FM D) : FM Bool := fun s => (a s).bind asB
theorem le_val : ∀ xq s n Q, up (fVal a) xq s n Q → tVal (up a) xq s n Q := fun xq s n Q h => by
  unfold tVal up
  exact wp_mono (fun d h => wp_asB h) (wp_bind h)
def fAndT (t u : FM Bool) : FM Bool := fun s => (t s).bind fun c => if c = true then u s else .ok false
theorem le_andT : ∀ xq s n Q, up (fAndT t u) xq s n Q → tAndD (up t) (up u) xq s n Q := fun xq s n Q h => by
  unfold tAndD up
  exact wp_mono (fun d h => wp_if h) (wp_bind h)
def fOrT (t u : FM Bool) : FM Bool := fun s => (t s).bind fun c => if c = true then .ok true else u s
theorem le_orT : ∀ xq s n Q, up (fOrT t u) xq s n Q → tOrD (up t) (up u) xq s n Q := fun xq s n Q h => by
  unfold tOrD up
  exact wp_mono (fun d h => wp_if h) (wp_bind h)
def fNotT (t : FM Bool) : FM Bool := fun s => (t s).bind fun c => .ok (!c)
theorem le_notT : ∀ xq s n Q, up (fNotT t) xq s n Q → tNotD (up t) xq s n Q := fun xq s n Q h => by
  unfold tNotD up
  exact wp_bind h
def fYes : FM Bool := fun _ => .ok true
theorem le_yes : ∀ xq s n Q, up fYes xq s n Q → tYesD xq s n Q := fun _ _ _ _ h => h
def fNeg (a : FM D) : FM D := fun s => (a s).bind fun x => match x with
  | .int i => .ok (.int (-i))
  | _ => .bad
theorem le_neg : ∀ xq s n Q, up (fNeg a) xq s n Q → eNeg (up a) xq s n Q := fun xq s n Q h => by
  unfold eNeg up
  exact wp_mono (fun d h => by
    cases d <;> first | exact h.elim | exact ⟨_, rfl, h⟩) (wp_bind h)
def fChainT (f g : D → D → Option D) (a b c : FM D) : FM Bool := fun s => (a s).bind fun x => (b s).bind fun y => (ofB (f x y)).bind fun k => if k = true then (c s).bind fun z => ofB (g y z) else .ok false
theorem le_chainT {f g : D → D → Option D} : ∀ xq s n Q, up (fChainT f g a b c) xq s n Q → eChainT f g (up a) (up b) (up c) xq s n Q := fun xq s n Q h => by
  unfold eChainT up
  exact wp_mono (fun x h => wp_mono (fun y h => by
    obtain ⟨k, e, q⟩ := wp_ofB (wp_bind h)
    refine ⟨k, e, ?_⟩
    cases k with
    | false => exact q
    | true =>
        rw [if_pos rfl] at q ⊢
        exact wp_mono (fun _ h => wp_ofB h) (wp_bind q)) (wp_bind h)) (wp_bind h)
def fNone : FM (Option Int) := fun _ => .ok none
def fSome (a : FM D) : FM (Option Int) := fun s => (a s).bind fun x => match x with
  | .int i => .ok (some i)
  | _ => .bad
theorem wp_some {Q : Option Int → Nat → Prop} (h : up (fSome a) xq s n Q) : oSome (up a) xq s n Q := by
  unfold oSome up
  exact wp_mono (fun d h => by
    cases d <;> first | exact h.elim | exact ⟨_, rfl, h⟩) (wp_bind h)
def fSl (a : FM D) (lo hi : FM (Option Int)) : FM D := fun s => (a s).bind fun d => (lo s).bind fun i => (hi s).bind fun j => ofO (dSl d i j)
def fFld (C g : Str) (a : FM D) : FM D := fun s => (a s).bind fun d => match d with
  | .obj C' fs => if C' = C then ofO (fs.lookup g) else .bad
  | _ => .bad
theorem le_fld {C g : Str} : ∀ xq s n Q, up (fFld C g a) xq s n Q → eFld C g (up a) xq s n Q := fun xq s n Q h => by
  unfold eFld up
  exact wp_mono (fun d h => by
    cases d with
    | obj C' fs =>
      obtain ⟨e, h⟩ := wp_dec h
      obtain ⟨v, e2, q⟩ := wp_ofO h
      exact ⟨fs, v, by rw [e], e2, q⟩
    | _ => exact h.elim) (wp_bind h)
def fDget (o k x : FM D) : FM D := fun s => (o s).bind fun d => match d with
  | .dic kvs => (k s).bind fun kd => (x s).bind fun xd => (ofO (keyD kd)).bind fun kk => .ok ((lookK kvs kk).getD xd)
  | _ => .bad
theorem le_dget : ∀ xq s n Q, up (fDget a b c) xq s n Q → eDget (up a) (up b) (up c) xq s n Q := fun xq s n Q h => by
  unfold eDget up
  exact wp_mono (fun d h => by
    cases d with
    | dic kvs => exact ⟨kvs, rfl, wp_mono (fun kd h => wp_mono (fun xd h => wp_ofO (wp_bind h)) (wp_bind h)) (wp_bind h)⟩
    | _ => exact h.elim) (wp_bind h)
end
end DL
namespace DL
open PySem PySem.Spec PyProof.Rows L2
variable [TabC]
/-! ### slices, calls -/
section
variable {X : Cx} {E : XK} {O : List Nat} {a b c o : FM D} {l : FM (List D)}
theorem loO {e : Option Expr} {m : EM (Option Int)} {f : FM (Option Int)} (h : VO X E O e m) (le : ∀ xq s n Q, up f xq s n Q → m xq s n Q) : VO X E O e (up f) := by
  obtain ⟨mn, t, p, q⟩ := h
  exact ⟨mn_up, t, p, fun aS A0 H0 σ H s n xq Q S L hm => q aS A0 H0 σ H s n xq Q S L (le _ _ _ _ hm)⟩
theorem le_none : ∀ xq s n Q, up fNone xq s n Q → oNone xq s n Q := fun _ _ _ _ h => h
theorem le_some : ∀ xq s n Q, up (fSome a) xq s n Q → oSome (up a) xq s n Q := fun _ _ _ _ h => wp_some h
theorem le_sl {i j : FM (Option Int)} : ∀ xq s n Q, up (fSl a i j) xq s n Q → eSl (up a) (up i) (up j) xq s n Q := fun xq s n Q h => by
  unfold eSl up
  exact wp_mono (fun d h => wp_mono (fun i h => wp_mono (fun j h => wp_ofO h) (wp_bind h)) (wp_bind h)) (wp_bind h)
abbrev FFn := List D → Res D
def FSp.of (f : FFn) : FSp := ⟨fun ds n Q xq => (f ds).wp xq n Q, fun _ _ _ _ _ hq h => wp_mono (fun a => hq a _) h⟩
def fCall (len : Nat) (f : FFn) (dds : List D) (l : FM (List D)) : FM D := fun s => (l s).bind fun ds => if (ds ++ dds).length = len then f (ds ++ dds) else .bad
theorem le_call {len : Nat} {f : FFn} {dds : List D} : ∀ xq s n Q, up (fCall len f dds l) xq s n Q → eCall len (FSp.of f) dds (up l) xq s n Q := fun xq s n Q h => by
  unfold eCall up
  exact wp_mono (fun d h => wp_dec h) (wp_bind h)
def fMeth (C mn : Str) (len : Nat) (f : FFn) (dds : List D) (o : FM D) (l : FM (List D)) : FM D := fun s => (o s).bind fun d => match d with
  | .obj C' fs => if C' = C ∧ fs.lookup mn = none then (l s).bind fun ds => if (d :: (ds ++ dds)).length = len then f (d :: (ds ++ dds)) else .bad else .bad
  | _ => .bad
theorem le_meth {C mn : Str} {len : Nat} {f : FFn} {dds : List D} : ∀ xq s n Q, up (fMeth C mn len f dds o l) xq s n Q → eMeth C mn len (FSp.of f) dds (up o) (up l) xq s n Q := fun xq s n Q h => by
  unfold eMeth up
  refine wp_mono (fun d h => ?_) (wp_bind h)
  cases d with
  | obj C' fs =>
    obtain ⟨⟨e1, e2⟩, h⟩ := wp_dec h
    exact ⟨fs, by rw [e1], e2, wp_mono (fun ds h => wp_dec h) (wp_bind h)⟩
  | _ => exact h.elim
def isObj : D → Bool
  | .obj _ _ => true
  | _ => false
def fMake (len : Nat) (f : FFn) (dds : List D) (l : FM (List D)) : FM D := fun s => (l s).bind fun ds => if (ds ++ dds).length + 1 = len then (f (ds ++ dds)).bind fun d => if isObj d = true then .ok d else .bad else .bad
theorem le_make {len : Nat} {f : FFn} {dds : List D} : ∀ xq s n Q, up (fMake len f dds l) xq s n Q → eMake len (FSp.of f) dds (up l) xq s n Q := fun xq s n Q h => by
  unfold eMake up
  refine wp_mono (fun ds h => ?_) (wp_bind h)
  obtain ⟨e, h⟩ := wp_dec h
  refine ⟨e, ?_⟩
  show (f (ds ++ dds)).wp xq n fun d n2 => (∃ C fs, d = D.obj C fs) ∧ Q d n2
  refine wp_mono (fun d h => ?_) (wp_bind h)
  obtain ⟨z, h⟩ := wp_dec h
  cases d with
  | obj C fs => exact ⟨⟨C, fs, rfl⟩, h⟩
  | _ => cases z
end
/-! ### targets, what is walked -/
abbrev FG := D → Ev → Option Ev
abbrev FGs := List D → Ev → Option Ev
def upG (g : FG) : DG := fun d s Q => ∃ s', g d s = some s' ∧ Q s'
def upGs (g : FGs) : DGs := fun d s Q => ∃ s', g d s = some s' ∧ Q s'
def fgNm (i : Nat) : FG := fun d s => some (s.set i (some d))
def fgTp (g : FGs) : FG := fun d s => match d with
  | .tup ds => g ds s
  | _ => none
def fgsNil : FGs := fun ds s => match ds with
  | [] => some s
  | _ => none
def fgsCons (g : FG) (r : FGs) : FGs := fun ds s => match ds with
  | d :: dr => (g d s).bind (r dr)
  | [] => none
theorem lg_nm {i : Nat} : ∀ d s Q, upG (fgNm i) d s Q → gNm i d s Q := fun d s Q ⟨s', e, q⟩ => by cases e; exact q
theorem lg_tp {g : FGs} {g' : DGs} (h : ∀ d s Q, upGs g d s Q → g' d s Q) : ∀ d s Q, upG (fgTp g) d s Q → gTp g' d s Q := fun d s Q ⟨s', e, q⟩ => by
  cases d with
  | tup ds => exact ⟨ds, rfl, h _ _ _ ⟨s', e, q⟩⟩
  | _ => cases e
theorem lgs_nil : ∀ d s Q, upGs fgsNil d s Q → gsNil d s Q := fun d s Q ⟨s', e, q⟩ => by
  cases d with
  | nil => cases e; exact ⟨rfl, q⟩
  | cons d ds => cases e
theorem lgs_cons {g : FG} {g' : DG} {r : FGs} {r' : DGs} (h : ∀ d s Q, upG g d s Q → g' d s Q) (h2 : ∀ d s Q, upGs r d s Q → r' d s Q) : ∀ d s Q, upGs (fgsCons g r) d s Q → gsCons g' r' d s Q := fun d s Q ⟨s', e, q⟩ => by
  cases d with
  | nil => cases e
  | cons d ds =>
    obtain ⟨s1, e1, e2⟩ := Option.bind_eq_some_iff.mp e
    exact ⟨d, ds, rfl, h _ _ _ ⟨s1, e1, h2 _ _ _ ⟨s', e2, q⟩⟩⟩
section
variable {X : Cx} {E : XK} {O vs : List Nat} {a b : FM D} {l : FM (List D)}
theorem loG {tg : Expr} {g : DG} {f : FG} (h : VG X O vs tg g) (le : ∀ d s Q, upG f d s Q → g d s Q) : VG X O vs tg (upG f) := by
  obtain ⟨mn, gt, p, q⟩ := h
  exact ⟨fun d s Q Q' hq ⟨s', e, z⟩ => ⟨s', e, hq _ z⟩, gt, p, fun aS A0 H0 σ H s n d v Q QH S r hm => q aS A0 H0 σ H s n d v Q QH S r (le _ _ _ hm)⟩
theorem loI {OB hid : List Nat} {tg iter : Expr} {m : EM (List D)} {f : FM (List D)} (h : VI X E O OB hid tg iter m) (le : ∀ xq s n Q, up f xq s n Q → m xq s n Q) : VI X E O OB hid tg iter (up f) := by
  obtain ⟨mn, t, p, q⟩ := h
  exact ⟨mn_up, t, p, fun aS A0 H0 σ H s n xq Q S L hm => q aS A0 H0 σ H s n xq Q S L (le _ _ _ _ hm)⟩
theorem loIs {tg iter : Expr} {m : EM (List D)} {f : FM (List D)} (h : VIs X E O tg iter m) (le : ∀ xq s n Q, up f xq s n Q → m xq s n Q) : VIs X E O tg iter (up f) := by
  obtain ⟨mn, t, p, q⟩ := h
  exact ⟨mn_up, t, p, fun aS A0 H0 σ H s n xq Q S L hm => q aS A0 H0 σ H s n xq Q S L (le _ _ _ _ hm)⟩
def fIter (a : FM D) : FM (List D) := fun s => (a s).bind fun d => ofO (dIter d)
theorem le_iter : ∀ xq s n Q, up (fIter a) xq s n Q → eIter (up a) xq s n Q := fun xq s n Q h => by
  unfold eIter up
  exact wp_mono (fun d h => wp_ofO h) (wp_bind h)
def fRange1 (a : FM D) : FM (List D) := fun s => (a s).bind fun d => match d with
  | .int j => if j ≤ LIM ∧ -(2 ^ 62) ≤ j then .ok ((List.range j.toNat).map fun i => .int (i : Nat)) else .bad
  | _ => .bad
theorem le_range1 : ∀ xq s n Q, up (fRange1 a) xq s n Q → eRange1 (up a) xq s n Q := fun xq s n Q h => by
  unfold eRange1 up
  refine wp_mono (fun d h => ?_) (wp_bind h)
  cases d with
  | int j =>
    obtain ⟨e, h⟩ := wp_dec h
    exact ⟨j, rfl, e.1, e.2, h⟩
  | _ => exact h.elim
def fEnum (a : FM D) : FM (List D) := fun s => (a s).bind fun d => (ofO (dSeq d)).bind fun ds => .ok (pairsD 0 ds)
theorem le_enum : ∀ xq s n Q, up (fEnum a) xq s n Q → eEnum (up a) xq s n Q := fun xq s n Q h => by
  unfold eEnum up
  exact wp_mono (fun d h => wp_ofO (wp_bind h)) (wp_bind h)
def fOwnL (i : Nat) : FM (List D) := fun s => match s[i]? with
  | some (some (.lst ds)) => .ok ds
  | _ => .bad
theorem le_own {i : Nat} : ∀ xq s n Q, up (fOwnL i) xq s n Q → eOwn i xq s n Q := fun xq s n Q h => by
  unfold up fOwnL at h
  split at h
  · rename_i ds e
    exact ⟨ds, e, h⟩
  · exact h.elim
end
/-! ### comprehensions -/
def fLcL (g : FG) (t : FM Bool) (e : FM D) (s0 : Ev) : List D → Res (List D)
  | [] => .ok []
  | d :: ds => (ofO (g d s0)).bind fun s1 => (t s1).calm.bind fun c => if c = true then (e s1).calm.bind fun x => (fLcL g t e s0 ds).bind fun xs => .ok (x :: xs) else fLcL g t e s0 ds
theorem wp_calm {α : Type} {r : Res α} {xq xq' : XQ} {n : Nat} {Q : α → Nat → Prop} (h : r.calm.wp xq n Q) : r.wp xq' n Q := by
  cases r with
  | ok a => exact h
  | ex x => exact False.elim h
  | bad => exact False.elim h
theorem lc_le {g : FG} {t : FM Bool} {e : FM D} {xq : XQ} {s0 : Ev} {n : Nat} : ∀ (ds acc : List D) (Q : List D → Nat → Prop), (fLcL g t e s0 ds).wp xq n (fun xs n' => Q (acc ++ xs) n') → sLcL (upG g) (up t) (up e) (fun _ _ => False) s0 ds n acc Q
  | [], acc, Q, h => by
    have h : Q (acc ++ []) n := h
    rw [List.append_nil] at h
    exact h
  | d :: ds, acc, Q, h => by
    obtain ⟨s1, e1, h⟩ := wp_ofO (wp_bind h)
    refine ⟨s1, e1, wp_calm (wp_mono (fun c h => ?_) (wp_bind h))⟩
    cases c with
    | false => exact lc_le ds acc Q h
    | true =>
      rw [if_pos rfl] at h ⊢
      refine wp_calm (wp_mono (fun x h => ?_) (wp_bind h))
      refine lc_le ds (acc ++ [x]) Q (wp_mono (fun xs h => ?_) (wp_bind h))
      rw [List.append_assoc]
      exact h
def fLc (i : FM (List D)) (hs : List Nat) (g : FG) (t : FM Bool) (e : FM D) : FM D := fun s => (i s).bind fun ds => if ds.length ≤ LIM then (fLcL g t e (hideL s hs) ds).calm.bind fun xs => .ok (.lst xs) else .bad
theorem le_lc {i : FM (List D)} {hs : List Nat} {g : FG} {t : FM Bool} {e : FM D} : ∀ xq s n Q, up (fLc i hs g t e) xq s n Q → eLc (up i) hs (upG g) (up t) (up e) xq s n Q := fun xq s n Q h => by
  unfold eLc up
  refine wp_mono (fun ds h => ?_) (wp_bind h)
  obtain ⟨e, h⟩ := wp_dec h
  exact ⟨e, lc_le (xq := xq) ds [] _ (wp_calm (wp_bind h))⟩
def fDcL (g : FG) (t : FM Bool) (k e : FM D) (s0 : Ev) : List D → List (Key × D) → Res (List (Key × D))
  | [], acc => .ok acc
  | d :: ds, acc => (ofO (g d s0)).bind fun s1 => (t s1).calm.bind fun c => if c = true then (k s1).calm.bind fun kd => (e s1).calm.bind fun x => (ofO (keyD kd)).bind fun kk => fDcL g t k e s0 ds (putD acc kk x) else fDcL g t k e s0 ds acc
theorem dc_le {g : FG} {t : FM Bool} {k e : FM D} {xq : XQ} {s0 : Ev} {n : Nat} : ∀ (ds : List D) (acc : List (Key × D)) (Q : List (Key × D) → Nat → Prop), (fDcL g t k e s0 ds acc).wp xq n Q → sDcL (upG g) (up t) (up k) (up e) (fun _ _ => False) s0 ds n acc Q
  | [], acc, Q, h => h
  | d :: ds, acc, Q, h => by
    obtain ⟨s1, e1, h⟩ := wp_ofO (wp_bind h)
    refine ⟨s1, e1, wp_calm (wp_mono (fun c h => ?_) (wp_bind h))⟩
    cases c with
    | false => exact dc_le ds acc Q h
    | true =>
      rw [if_pos rfl] at h ⊢
      refine wp_calm (wp_mono (fun kd h => ?_) (wp_bind h))
      refine wp_calm (wp_mono (fun x h => ?_) (wp_bind h))
      obtain ⟨kk, e2, h⟩ := wp_ofO (wp_bind h)
      exact ⟨kk, e2, dc_le ds _ Q h⟩
def fDc (i : FM (List D)) (hs : List Nat) (g : FG) (t : FM Bool) (k e : FM D) : FM D := fun s => (i s).bind fun ds => if ds.length ≤ LIM then (fDcL g t k e (hideL s hs) ds []).calm.bind fun xs => .ok (.dic xs) else .bad
theorem le_dc {i : FM (List D)} {hs : List Nat} {g : FG} {t : FM Bool} {k e : FM D} : ∀ xq s n Q, up (fDc i hs g t k e) xq s n Q → eDc (up i) hs (upG g) (up t) (up k) (up e) xq s n Q := fun xq s n Q h => by
  unfold eDc up
  refine wp_mono (fun ds h => ?_) (wp_bind h)
  obtain ⟨e, h⟩ := wp_dec h
  exact ⟨e, dc_le (xq := xq) ds [] _ (wp_calm (wp_bind h))⟩
/-- a dict by a path -/
def asDic : Option D → Res (List (Key × D))
  | some (.dic kvs) => .ok kvs
  | _ => .bad
theorem wp_asDic {o : Option D} {xq : XQ} {n : Nat} {Q : List (Key × D) → Nat → Prop} (h : (asDic o).wp xq n Q) : ∃ kvs, o = some (.dic kvs) ∧ Q kvs n := by
  unfold asDic at h
  split at h
  · exact ⟨_, rfl, h⟩
  · exact h.elim
end DL
namespace DL
open PySem PySem.Spec PyProof.Rows L2
variable [TabC]
/-! ### statements that are plain functions -/
inductive SO where
  | nx (s : Ev) | rt (d : D) | bk (s : Ev) | ct (s : Ev) | ex (x : XD) | bad
abbrev FS := Ev → SO
def SO.wp (o : SO) (xq : XQ) (de : DE) (n : Nat) : Prop := match o with
  | .nx s => de.nx s n
  | .rt d => de.rt d n
  | .bk s => de.bk s n
  | .ct s => de.ct s n
  | .ex x => xq x n
  | .bad => False
def upS (f : FS) : SM := fun xq de s n => (f s).wp xq de n
/-- an expression, then a statement's end -/
def Res.so {α : Type} (r : Res α) (k : α → SO) : SO := match r with
  | .ok a => k a
  | .ex x => .ex x
  | .bad => .bad
theorem wp_so {α : Type} {r : Res α} {k : α → SO} {xq : XQ} {de : DE} {n : Nat} (h : (r.so k).wp xq de n) : r.wp xq n fun a n' => (k a).wp xq de n' := by
  cases r <;> exact h
theorem so_dec {p : Prop} [Decidable p] {o : SO} {xq : XQ} {de : DE} {n : Nat} (h : (if p then o else .bad).wp xq de n) : p ∧ o.wp xq de n := by
  by_cases z : p
  · rw [if_pos z] at h
    exact ⟨z, h⟩
  · rw [if_neg z] at h
    exact h.elim
section
variable {X : Cx} {E : XK} {O O' OL : List Nat}
theorem loS {st : Stmt} {m : SM} {f : FS} (h : VS X E O O' OL st m) (le : ∀ xq de s n, upS f xq de s n → m xq de s n) : VS X E O O' OL st (upS f) := by
  obtain ⟨t, p, q⟩ := h
  exact ⟨t, p, fun aS A0 H0 σ H s n xq de De S L k hm => q aS A0 H0 σ H s n xq de De S L k (le _ _ _ _ hm)⟩
theorem loSs {st : List Stmt} {m : SM} {f : FS} (h : VSs X E O O' OL st m) (le : ∀ xq de s n, upS f xq de s n → m xq de s n) : VSs X E O O' OL st (upS f) := by
  obtain ⟨t, p, q⟩ := h
  exact ⟨t, p, fun aS A0 H0 σ H s n xq de De S L k hm => q aS A0 H0 σ H s n xq de De S L k (le _ _ _ _ hm)⟩
end
section
variable {a b : FM D} {t : FM Bool} {l : FM (List D)} {f g : FS}
def fNilS : FS := fun s => .nx s
theorem ls_nil : ∀ xq de s n, upS fNilS xq de s n → sNil xq de s n := fun _ _ _ _ h => h
def fSeq (f g : FS) : FS := fun s => match f s with
  | .nx s' => g s'
  | o => o
theorem ls_seq : ∀ xq de s n, upS (fSeq f g) xq de s n → sSeq (upS f) (upS g) xq de s n := fun xq de s n h => by
  unfold upS fSeq at h
  unfold sSeq upS
  cases e : f s <;> rw [e] at h <;> exact h
def fSeqF (f g : FS) : FS := fun s => match f s with
  | .nx s' => g s'
  | .ex x => .ex x
  | _ => .bad
def fRet (a : FM D) : FS := fun s => (a s).so .rt
theorem ls_ret : ∀ xq de s n, upS (fRet a) xq de s n → sRet (up a) xq de s n := fun xq de s n h => by
  unfold sRet up
  exact wp_so h
def fSet (i : Nat) (a : FM D) : FS := fun s => (a s).so fun d => .nx (s.set i (some d))
theorem ls_set {i : Nat} : ∀ xq de s n, upS (fSet i a) xq de s n → sSet i (up a) xq de s n := fun xq de s n h => by
  unfold sSet up
  exact wp_so h
def fSetF (i : Nat) (a : FM D) : FS := fun s => if i < s.length then (a s).so fun d => .nx (s.set i (some d)) else .bad
theorem ls_setF {i : Nat} : ∀ xq de s n, upS (fSetF i a) xq de s n → sSetF i (up a) xq de s n := fun xq de s n h => by
  obtain ⟨e, h⟩ := so_dec h
  exact ⟨e, wp_so h⟩
def fIfS (t : FM Bool) (f g : FS) : FS := fun s => (t s).so fun c => if c = true then f s else g s
theorem ls_if : ∀ xq de s n, upS (fIfS t f g) xq de s n → sIf (up t) (upS f) (upS g) xq de s n := fun xq de s n h => by
  unfold sIf up
  refine wp_mono (fun c h => ?_) (wp_so h)
  cases c <;> exact h
def fDrop (a : FM D) : FS := fun s => (a s).so fun _ => .nx s
theorem ls_drop : ∀ xq de s n, upS (fDrop a) xq de s n → sDrop (up a) xq de s n := fun xq de s n h => by
  unfold sDrop up
  exact wp_so h
/-- a list in a slot -/
def lstAt (s : Ev) (i : Nat) (k : List D → SO) : SO := match s[i]? with
  | some (some (.lst ds)) => k ds
  | _ => .bad
theorem wp_lstAt {s : Ev} {i : Nat} {k : List D → SO} {xq : XQ} {de : DE} {n : Nat} (h : (lstAt s i k).wp xq de n) : ∃ ds, s[i]? = some (some (.lst ds)) ∧ (k ds).wp xq de n := by
  unfold lstAt at h
  split at h
  · rename_i ds e
    exact ⟨ds, e, h⟩
  · exact h.elim
def dicAt (s : Ev) (i : Nat) (k : List (Key × D) → SO) : SO := match s[i]? with
  | some (some (.dic ds)) => k ds
  | _ => .bad
theorem wp_dicAt {s : Ev} {i : Nat} {k : List (Key × D) → SO} {xq : XQ} {de : DE} {n : Nat} (h : (dicAt s i k).wp xq de n) : ∃ ds, s[i]? = some (some (.dic ds)) ∧ (k ds).wp xq de n := by
  unfold dicAt at h
  split at h
  · rename_i ds e
    exact ⟨ds, e, h⟩
  · exact h.elim
def fApp (i : Nat) (a : FM D) : FS := fun s => lstAt s i fun ds => (a s).so fun d => if ds.length < LIM then .nx (s.set i (some (.lst (ds ++ [d])))) else .bad
theorem ls_app {i : Nat} : ∀ xq de s n, upS (fApp i a) xq de s n → sApp i (up a) xq de s n := fun xq de s n h => by
  obtain ⟨ds, e, h⟩ := wp_lstAt h
  exact ⟨ds, e, wp_mono (fun d h => so_dec h) (wp_so h)⟩
def asIns : List D → Option (Nat × D)
  | [.int k, d] => if 0 ≤ k then some (k.toNat, d) else none
  | _ => none
theorem asIns_ok {l : List D} {k : Nat} {d : D} (h : asIns l = some (k, d)) : l = [.int k, d] := by
  unfold asIns at h
  split at h
  · split at h
    · cases h
      rename_i k d hk
      rw [Int.toNat_of_nonneg hk]
    · cases h
  · cases h
def fIns (i : Nat) (l : FM (List D)) : FS := fun s => lstAt s i fun ds => (l s).so fun x => (ofO (asIns x)).so fun p => if ds.length < LIM ∧ p.1 ≤ LIM then .nx (s.set i (some (.lst (ds.take p.1 ++ [p.2] ++ ds.drop p.1)))) else .bad
theorem ls_ins {i : Nat} : ∀ xq de s n, upS (fIns i l) xq de s n → sIns i (up l) xq de s n := fun xq de s n h => by
  obtain ⟨ds, e, h⟩ := wp_lstAt h
  refine ⟨ds, e, wp_mono (fun x h => ?_) (wp_so h)⟩
  obtain ⟨⟨k, d⟩, e2, h⟩ := wp_ofO (wp_so h)
  obtain ⟨e3, h⟩ := so_dec h
  exact ⟨k, d, asIns_ok e2, e3.1, e3.2, h⟩
def fDput (i : Nat) (k a : FM D) : FS := fun s => (a s).so fun d => (k s).so fun kd => (ofO (keyD kd)).so fun kk => dicAt s i fun kvs => if kvs.length < LIM then .nx (s.set i (some (.dic (putD kvs kk d)))) else .bad
theorem ls_dput {i : Nat} : ∀ xq de s n, upS (fDput i b a) xq de s n → sDput i (up b) (up a) xq de s n := fun xq de s n h => by
  unfold sDput up
  refine wp_mono (fun d h => wp_mono (fun kd h => ?_) (wp_so h)) (wp_so h)
  obtain ⟨kk, e, h⟩ := wp_ofO (wp_so h)
  obtain ⟨kvs, e2, h⟩ := wp_dicAt h
  obtain ⟨e3, h⟩ := so_dec h
  exact ⟨kk, kvs, e, e2, e3, h⟩
def fFldS (i : Nat) (C g : Str) (a : FM D) : FS := fun s => (a s).so fun d => match s[i]? with
  | some (some (.obj C' fs)) => if C' = C ∧ fs.length < 1000 then .nx (s.set i (some (.obj C (putFD g d fs)))) else .bad
  | _ => .bad
theorem ls_fld {i : Nat} {C g : Str} : ∀ xq de s n, upS (fFldS i C g a) xq de s n → sFldD i C g (up a) xq de s n := fun xq de s n h => by
  unfold sFldD up
  refine wp_mono (fun d h => ?_) (wp_so h)
  split at h
  · rename_i C' fs e
    obtain ⟨e2, h⟩ := so_dec h
    exact ⟨fs, by rw [e, e2.1], e2.2, h⟩
  · exact h.elim
def fParFF (i j : Nat) (a b : FM D) : FS := fun s => if i < s.length ∧ j < s.length then (a s).calm.so fun d => (b s).calm.so fun d' => .nx ((s.set i (some d)).set j (some d')) else .bad
theorem ls_parFF {i j : Nat} : ∀ xq de s n, upS (fParFF i j a b) xq de s n → sParFF i j (up a) (up b) xq de s n := fun xq de s n h => by
  obtain ⟨e, h⟩ := so_dec h
  refine ⟨e.1, e.2, ?_⟩
  unfold sPar up
  exact wp_calm (wp_mono (fun d h => wp_calm (wp_so h)) (wp_so h))
def fRaise (C : Str) (fl : List Str) (l : FM (List D)) : FS := fun s => (l s).so fun ds => if ds.length = fl.length then .ex (C, ES.fsOf fl ds) else .bad
theorem ls_raise {C : Str} {fl : List Str} : ∀ xq de s n, upS (fRaise C fl l) xq de s n → sRaise C fl (up l) xq de s n := fun xq de s n h => by
  unfold sRaise up
  exact wp_mono (fun ds h => so_dec h) (wp_so h)
/-! loops -/
def fForL (g : FG) (b : FS) : List D → FS
  | [], s => .nx s
  | d :: ds, s => (ofO (g d s)).so fun s1 => match b s1 with
    | .nx s2 => fForL g b ds s2
    | .ct s2 => fForL g b ds s2
    | .bk s2 => .nx s2
    | o => o
theorem for_le {g : FG} {b : FS} {xq : XQ} {de : DE} {n : Nat} : ∀ (ds : List D) (s : Ev), (fForL g b ds s).wp xq de n → sForL (upG g) (upS b) xq de ds s n
  | [], s, h => h
  | d :: ds, s, h => by
    obtain ⟨s1, e1, h⟩ := wp_ofO (wp_so h)
    refine ⟨s1, e1, ?_⟩
    change (b s1).wp xq { de with nx := fun s2 n2 => sForL (upG g) (upS b) xq de ds s2 n2, ct := fun s2 n2 => sForL (upG g) (upS b) xq de ds s2 n2, bk := de.nx } n
    cases e : b s1 <;> rw [e] at h
    · exact for_le ds _ h
    · exact h
    · exact h
    · exact for_le ds _ h
    · exact h
    · exact h
def fFor (i : FM (List D)) (g : FG) (b : FS) : FS := fun s => (i s).so fun ds => fForL g b ds s
theorem ls_for {i : FM (List D)} {g : FG} {b : FS} : ∀ xq de s n, upS (fFor i g b) xq de s n → sFor (up i) (upG g) (upS b) xq de s n := fun xq de s n h => by
  unfold sFor up
  exact wp_mono (fun ds h => for_le ds s h) (wp_so h)
def fForD (p : Ev → Option D) (k : List (Key × D) → List D) (g : FG) (b : FS) : FS := fun s => (asDic (p s)).so fun kvs => fForL g b (k kvs) s
theorem ls_forD {p : Ev → Option D} {k : List (Key × D) → List D} {g : FG} {b : FS} : ∀ xq de s n, upS (fForD p k g b) xq de s n → sForD p k (upG g) (upS b) xq de s n := fun xq de s n h => by
  obtain ⟨kvs, e, h⟩ := wp_asDic (wp_so h)
  exact ⟨kvs, e, for_le _ s h⟩
def fWhileN (t : FM Bool) (b : FS) : Nat → FS
  | 0, _ => .bad
  | k + 1, s => (t s).so fun c => if c = true then (match b s with
    | .nx s2 => fWhileN t b k s2
    | .ct s2 => fWhileN t b k s2
    | .bk s2 => .nx s2
    | o => o) else .nx s
theorem while_le {t : FM Bool} {b : FS} {xq : XQ} {de : DE} {n : Nat} : ∀ (k : Nat) (s : Ev), (fWhileN t b k s).wp xq de n → sWhileN (up t) (upS b) xq de k s n
  | 0, s, h => h
  | k + 1, s, h => by
    unfold sWhileN up
    refine wp_mono (fun c h => ?_) (wp_so h)
    cases c with
    | false => exact h
    | true =>
      rw [if_pos rfl] at h ⊢
      change (b s).wp xq { de with nx := fun s2 n2 => sWhileN (up t) (upS b) xq de k s2 n2, ct := fun s2 n2 => sWhileN (up t) (upS b) xq de k s2 n2, bk := de.nx } n
      cases e : b s <;> rw [e] at h
      · exact while_le k _ h
      · exact h
      · exact h
      · exact while_le k _ h
      · exact h
      · exact h
def FUEL : Nat := 1000000
def fWhile (t : FM Bool) (b : FS) : FS := fWhileN t b FUEL
theorem ls_while {t : FM Bool} {b : FS} : ∀ xq de s n, upS (fWhile t b) xq de s n → sWhile (up t) (upS b) xq de s n := fun xq de s n h => ⟨FUEL, while_le _ _ h⟩
end
/-! ### defs -/
def runB (N : List Str) (b : FS) : FFn := fun ds => match b (startD N ds) with
  | .nx _ => .ok .non
  | .rt d => .ok d
  | .ex x => .ex x
  | _ => .bad
/-- the object that slot 0 holds -/
def objAt (C : Str) (s : Ev) : Res D := match s[0]? with
  | some (some (D.obj C' fs)) => if C' = C then .ok (.obj C fs) else .bad
  | _ => .bad
theorem wp_objAt {C : Str} {s : Ev} {xq : XQ} {n : Nat} {Q : D → Nat → Prop} (h : (objAt C s).wp xq n Q) : ∃ fs, s[0]? = some (some (.obj C fs)) ∧ Q (.obj C fs) n := by
  unfold objAt at h
  split at h
  · rename_i C' fs e2
    obtain ⟨e3, h⟩ := wp_dec h
    exact ⟨fs, by rw [e2, e3], h⟩
  · exact h.elim
def runI (C : Str) (N : List Str) (b : FS) : FFn := fun ds => match b (startD N (.obj C [] :: ds)) with
  | .nx s => objAt C s
  | .ex x => .ex x
  | _ => .bad
theorem meets {len : Nat} {N : List Str} {b : FS} : Meets len N (FSp.of (runB N b)) (upS b) := fun ds n Q xq hl h => by
  have h : (runB N b ds).wp xq n Q := h
  unfold runB at h
  unfold upS
  cases e : b (startD N ds) <;> rw [e] at h <;> first | exact h | exact h.elim
theorem meetsI {C : Str} {len : Nat} {N : List Str} {b : FS} : MeetsI C len N (FSp.of (runI C N b)) (upS b) := fun ds n Q xq hl h => by
  have h : (runI C N b ds).wp xq n Q := h
  unfold runI at h
  unfold upS
  cases e : b (startD N (.obj C [] :: ds)) <;> rw [e] at h <;> first | exact wp_objAt h | exact h | exact h.elim
/-- what runI makes is an object of the class -/
theorem runI_obj {C : Str} {N : List Str} {b : FS} {ds : List D} {n : Nat} {Q : D → Nat → Prop} {xq : XQ} (h : (FSp.of (runI C N b)).run ds n Q xq) : (FSp.of (runI C N b)).run ds n (fun d n' => (∃ fs, d = .obj C fs) ∧ Q d n') xq := by
  have h : (runI C N b ds).wp xq n Q := h
  show (runI C N b ds).wp xq n fun d n' => (∃ fs, d = .obj C fs) ∧ Q d n'
  unfold runI at h ⊢
  cases e : b (startD N (.obj C [] :: ds)) <;> rw [e] at h <;> first | exact h | exact h.elim | skip
  obtain ⟨fs, e2, q⟩ := wp_objAt h
  show (objAt C _).wp xq n _
  unfold objAt
  rw [e2]
  show (if C = C then Res.ok (D.obj C fs) else .bad).wp xq n _
  rw [if_pos rfl]
  exact ⟨⟨fs, rfl⟩, q⟩
end DL
namespace DL
open PySem PySem.Spec PyProof.Rows L2
variable [TabC]
section
variable {X : Cx} {E : XK} {O : List Nat} {a b c o : FM D} {l : FM (List D)}
theorem ls_retV {i : Nat} : ∀ xq de s n, upS (fRet (fVar i)) xq de s n → sRet (eVar i) xq de s n := fun xq de s n h => le_var i _ _ _ _ (ls_ret _ _ _ _ h)
theorem ls_setM {i : Nat} {m : EM D} (le : ∀ xq s n Q, up a xq s n Q → m xq s n Q) : ∀ xq de s n, upS (fSetF i a) xq de s n → sSetF i m xq de s n := fun xq de s n h => by
  obtain ⟨e, h⟩ := ls_setF _ _ _ _ h
  exact ⟨e, le _ _ _ _ h⟩
theorem le_meth0 {C mn : Str} {len : Nat} {f : FFn} {dds : List D} : ∀ xq s n Q, up (fMeth C mn len f dds o fNil) xq s n Q → eMeth C mn len (FSp.of f) dds (up o) eNil xq s n Q := fun xq s n Q h => le_meth _ _ _ _ h
theorem loW {e : Expr} {m : EM Bool} {f : FM Bool} (h : VW X E O e m) (le : ∀ xq s n Q, up f xq s n Q → m xq s n Q) : VW X E O e (up f) := by
  obtain ⟨mn, t, p, q⟩ := h
  exact ⟨mn_up, t, p, fun aS A0 H0 σ H s n xq Q S L hm => q aS A0 H0 σ H s n xq Q S L (le _ _ _ _ hm)⟩
end
end DL
namespace DL
open PySem PySem.Spec PyProof.Rows L2
/-! `{**d, k: v}` and `{**d, **e}` -/
section
variable {P : Program} {w : World} {A : Around} {E : Value → Shared → Prop} {s : Shared}
section
variable {M : Model} {Γ : PySem.Ctx} {a : Addr} {f : Array DictEntry → Array DictEntry} {pt : Option Value} {Q : Unit → Pos → Shared → Prop} {X : Value → Pos → Shared → Prop} {p : Pos}
theorem load_any {Q : Obj → Pos → Shared → Prop} : Sem.wp M Γ (loadPart a pt) Q X p s = Sem.wp M Γ (loadPart a none) Q X p s := by rw [Sem.wp_cmd_loadPart, Sem.wp_cmd_loadPart]
theorem upd_any {f : Obj → Obj} : Sem.wp M Γ (updatePart a pt f) Q X p s = Sem.wp M Γ (updatePart a none f) Q X p s := by rw [Sem.wp_cmd_updatePart, Sem.wp_cmd_updatePart]
theorem updD_any (h : Sem.wp M Γ (updateDict a f pt) Q X p s) : Sem.wp M Γ (updateDict a f) Q X p s := by
  unfold updateDict at h ⊢
  rw [Sem.wp_bind', load_any] at h
  rw [Sem.wp_bind']
  refine Sem.wp_mono _ _ _ (fun o p1 s1 h => ?_) (fun _ _ _ h => h) p s h
  cases e : o.data with
  | dict es n =>
    rw [e] at h
    dsimp only at h ⊢
    rw [Sem.wp_bind', upd_any] at h
    rw [Sem.wp_bind']
    refine Sem.wp_mono _ _ _ (fun _ p2 s2 h => ?_) (fun _ _ _ h => h) p1 s1 h
    rw [Sem.wp_bind', load_any] at h
    rw [Sem.wp_bind']
    exact h
  | _ => rw [e] at h; exact h
theorem updK_any (h : Sem.wp M Γ (updateDictKeys a f pt) Q X p s) : Sem.wp M Γ (updateDictKeys a f) Q X p s := by
  unfold updateDictKeys at h ⊢
  rw [Sem.wp_bind', load_any] at h
  rw [Sem.wp_bind']
  refine Sem.wp_mono _ _ _ (fun o p1 s1 h => ?_) (fun _ _ _ h => h) p s h
  cases e : o.data with
  | dict es n =>
    rw [e] at h
    dsimp only at h ⊢
    rw [Sem.wp_bind', upd_any] at h
    rw [Sem.wp_bind']
    refine Sem.wp_mono _ _ _ (fun _ p2 s2 h => ?_) (fun _ _ _ h => h) p1 s1 h
    unfold lookBehind at h ⊢
    rw [Sem.wp_bind', load_any] at h
    rw [Sem.wp_bind']
    exact h
  | _ => rw [e] at h; exact h
end
theorem put_of_set {d : Addr} {h : Int} {key v : Value} {Q : Unit → Shared → Prop} (z : wpAny (model P w) A (dictSetHashed d key h v) Q E s) : wpAny (model P w) A (dictPut d h key v) Q E s := by
  intro Γ p g
  have y := z Γ p g
  unfold dictSetHashed at y
  unfold dictPut
  rw [Sem.wp_holding, Sem.wp_bind'] at y
  rw [Sem.wp_bind']
  refine Sem.wp_mono _ _ _ (fun o p' s' q => ?_) (fun _ _ _ q => q) p s y
  cases o with
  | none =>
    simp only [Sem.wp_bind', rule, Sem.wp_rule] at q ⊢
    exact updK_any q
  | some i =>
    simp only [Sem.wp_bind', rule, Sem.wp_rule] at q ⊢
    refine Sem.wp_mono _ _ _ (fun u p1 s1 q => ?_) (fun _ _ _ q => q) _ _ (updD_any q)
    exact q
/-- the entries behind i, one after the other -/
theorem merge_turns {d a : Addr} {more : List (Key × Value)} {o : Obj} {es : Array DictEntry} {ep : Nat} (hda : d ≠ a) (hdat : o.data = .dict es ep) (hk : KeysOf (mixKind P w) es) (hp : Pairs (mixKind P w) es.toList more) :
    ∀ (is : List Nat) (i : Nat) (kvs : List (Key × Value)) (s : Shared) (Q : PUnit → Shared → Prop), is = List.range' i (es.size - i) → s.heap.get? a = some o → s.heap.DictOf (mixKind P w) d kvs → kvs.length + (more.drop i).length ≤ sizeLine →
    (∀ h', h'.DictOf (mixKind P w) d (merged kvs (more.drop i)) → Heap.SameBut d s.heap h' → Q ⟨⟩ { s with heap := h' }) →
    wpAny (model P w) A (forIn is PUnit.unit fun i (_ : PUnit) => (do
      let l ← dictEntries a
      match l[i]? with
      | some e => do
        holding [e.key, e.val] (dictPut d e.hash e.key e.val)
        let n ← dictEpoch a
        if (n != ep) = true then do
          (unsupported "dict.changed-during-merge" : Sem PUnit)
          pure (ForInStep.yield PUnit.unit)
        else pure (ForInStep.yield PUnit.unit)
      | _ => do
        (unsupported "dict.changed-during-merge" : Sem PUnit)
        pure (ForInStep.yield PUnit.unit) : Sem (ForInStep PUnit))) Q E s := by
  have len : more.length = es.size := by rw [← hp.length]; simp
  intro is
  induction is with
  | nil =>
    intro i kvs s Q hi ha hd hz hQ
    have : es.size - i = 0 := by
      have := congrArg List.length hi
      simpa using this.symm
    have : more.drop i = [] := List.drop_eq_nil_of_le (by omega)
    rw [List.forIn_nil]
    refine wpAny_pure (hQ s.heap ?_ (Heap.SameBut.refl _ _))
    rw [this]
    exact hd
  | cons j is ih =>
    intro i kvs s Q hi ha hd hz hQ
    have hlt : i < es.size := by
      have := congrArg List.length hi
      simp at this
      omega
    have e1 : es.size - i = (es.size - (i + 1)) + 1 := by omega
    rw [e1, List.range'_succ] at hi
    injection hi with hj his
    subst hj
    have hm : j < more.length := by omega
    have hdr : more.drop j = more[j] :: more.drop (j + 1) := (List.drop_eq_getElem_cons hm)
    obtain ⟨hkey, hval⟩ := hp.get? (i := j) (e := es[j]) (by simp [hlt]) (List.getElem?_eq_getElem hm)
    obtain ⟨k', hkey', hhash⟩ := hk es[j] (Array.getElem_mem hlt)
    have hkk : k' = more[j].1 := (mixKind P w).inj _ _ _ hkey' hkey
    rw [hdr, List.length_cons] at hz
    rw [List.forIn_cons]
    refine wpAny_bind (wpAny_bind (wpAny_dictEntries ha hdat ?_))
    rw [Array.getElem?_eq_getElem hlt]
    dsimp only
    rw [hhash, hkk, hval]
    refine wpAny_bind (wpAny_holding (put_of_set (wpAny_dictSetHashed_pairs (hsz := by omega) hkey hd fun h1 hd1 hs1 => ?_)))
    have ha1 : h1.get? a = some o := (hs1.2 a (Ne.symm hda)).trans ha
    refine wpAny_bind (wpAny_dictEpoch ha1 hdat ?_)
    rw [if_neg (by simp)]
    refine wpAny_pure (ih (j + 1) (stored kvs more[j].1 more[j].2) _ Q his ha1 hd1 (by have := stored_length_le kvs more[j].1 more[j].2; omega) fun h' hd' hs' => hQ h' ?_ (hs1.trans hs'))
    rw [hdr]
    exact hd'
/-- d takes over what a holds -/
theorem merge_any {d a : Addr} {kvs more : List (Key × Value)} {Q : Unit → Shared → Prop} (hda : d ≠ a) (hs : (a == sysModules) = false) (hd : s.heap.DictOf (mixKind P w) d kvs) (ha : s.heap.DictOf (mixKind P w) a more) (hz : kvs.length + more.length ≤ sizeLine)
    (hQ : ∀ h', h'.DictOf (mixKind P w) d (merged kvs more) → h'.DictOf (mixKind P w) a more → Heap.SameBut d s.heap h' → Q () { s with heap := h' }) :
    wpAny (model P w) A (mergeMapping d (.ref a) false) Q E s := by
  obtain ⟨o, es, ep, g, gc, gd, gk, gp, gn⟩ := id ha
  obtain ⟨od, esd, epd, fo, fc, fd, fk, fp, fn⟩ := id hd
  have loop : ∀ s1 : Shared, s1 = s → wpAny (model P w) A (do
      let l ← dictEntries a
      let n ← dictEpoch a
      forIn (List.range l.size) PUnit.unit fun i (_ : PUnit) => (do
          let l ← dictEntries a
          match l[i]? with
          | some e => do
            holding [e.key, e.val] (dictPut d e.hash e.key e.val)
            let m ← dictEpoch a
            if (m != n) = true then do
              (unsupported "dict.changed-during-merge" : Sem PUnit)
              pure (ForInStep.yield PUnit.unit)
            else pure (ForInStep.yield PUnit.unit)
          | _ => do
            (unsupported "dict.changed-during-merge" : Sem PUnit)
            pure (ForInStep.yield PUnit.unit) : Sem (ForInStep PUnit))
      pure ()) Q E s1 := by
    rintro _ rfl
    refine wpAny_bind (wpAny_dictEntries g gd (wpAny_bind (wpAny_dictEpoch g gd (wpAny_bind ?_))))
    refine merge_turns hda gd gk gp _ 0 kvs _ _ (by rw [List.range_eq_range']; rfl) g hd (by simpa using hz) fun h' q1 q2 => wpAny_pure (hQ h' (by simpa using q1) ⟨o, es, ep, (q2.2 a (Ne.symm hda)).trans g, gc, gd, gk, gp, gn⟩ q2)
  unfold mergeMapping
  refine wpAny_bind ?_
  refine wpAny_mono (Q := fun b s1 => b = true ∧ s1 = s) (wpAny_isInstance ha.typeIs isSubtype_dict_dict ⟨rfl, rfl⟩) ?_ fun _ _ q => q
  rintro b s1 ⟨rfl, rfl⟩
  rw [if_pos rfl]
  refine wpAny_bind (wpAny_specialOf ha.typeIs F.slot_dict_iter.lookup (wpAny_bind (wpAny_pure ?_)))
  simp only [beq_self_eq_true]
  rw [if_neg (by rw [hs]; exact Bool.false_ne_true)]
  refine wpAny_bind (wpAny_dictEntries fo fd ?_)
  split
  · refine wpAny_bind (wpAny_dictEntries g gd (wpAny_bind ?_))
    rw [← Array.forIn_toList]
    refine wpAny_forIn_list _ (fun l _ s2 => s2 = s1 ∧ ∀ e, e ∈ l → e ∈ es) (fun _ s2 => wpAny (model P w) A _ Q E s2) (fun e l _ s2 q => ?_) (fun _ s2 q => ?_) _ _ ⟨rfl, fun e h => Array.mem_toList_iff.mp h⟩
    · obtain ⟨rfl, q⟩ := q
      obtain ⟨k, hkey, _⟩ := gk e (q e List.mem_cons_self)
      have hv := (mixKind P w).byValue k _ hkey
      cases hke : e.key with
      | ref b => rw [hke] at hv; exact absurd hv Bool.false_ne_true
      | _ => exact wpAny_pure ⟨rfl, fun e h => q e (List.mem_cons_of_mem _ h)⟩
    · exact loop s2 q.1
  · exact loop s1 rfl
end
section
variable {X : Cx} {m e : Expr} {k v : Expr} {tm te tk tv : TE} {pos : Pos}
theorem wIfT {α : Type} {c : Prop} [Decidable c] {a b : Sem α} {M : Model} {A : Around} {E : Value → Shared → Prop} {Q : α → Shared → Prop} {s : Shared} (hc : c) (h : wpAny M A a Q E s) : wpAny M A (if c then a else b) Q E s := by rw [if_pos hc]; exact h
theorem wIfN {α : Type} {c : Prop} [Decidable c] {a b : Sem α} {M : Model} {A : Around} {E : Value → Shared → Prop} {Q : α → Shared → Prop} {s : Shared} (hc : ¬ c) (h : wpAny M A b Q E s) : wpAny M A (if c then a else b) Q E s := by rw [if_neg hc]; exact h
/-- p, empty, takes over what a holds -/
theorem merge0_I {pins : List (Addr × Obj)} {σ : L2.St} {H : Hp} {s : Shared} {p a : Addr} {more : List (Key × V)} {A : Around} {E : Value → Shared → Prop} {Q : Unit → Shared → Prop} (I : L2.Inv X pins σ H s) (hpa : p ≠ a) (hp : H p = some (.dK [])) (ha : Rd H a (.dK more))
    (hQ : ∀ s', L2.Inv X pins σ (upd H p (.dK more)) s' → Q () s') : wpAny (model X.prog X.w) A (mergeMapping p (.ref a) false) Q E s := by
  obtain ⟨z1, y1, vs1, r1, d1⟩ := dk_rd I.hok (.inl hp)
  obtain ⟨z2, y2, vs2, r2, d2⟩ := dk_rd I.hok ha
  cases r1
  refine merge_any hpa y2 d1 d2 (by rw [← r2.length]; simpa using z2) fun h' q1 _ q2 => ?_
  have e : merged [] vs2 = vs2 := let ⟨_, _, _, _, _, _, _, _, n⟩ := d2; merged_nil_of_nodup vs2 n
  rw [e] at q1
  exact hQ _ (d_write (t' := s.toks) I (by rw [hp]; exact True.intro) q2 (let ⟨q, _, _, hq, _⟩ := q1; ⟨q, hq⟩) (dk_new z2 y1 r2 q1))
theorem merge_I {pins : List (Addr × Obj)} {σ : L2.St} {H : Hp} {s : Shared} {p a : Addr} {kvs more : List (Key × V)} {A : Around} {E : Value → Shared → Prop} {Q : Unit → Shared → Prop} (I : L2.Inv X pins σ H s) (hpa : p ≠ a) (hp : H p = some (.dK kvs)) (ha : Rd H a (.dK more)) (hl : kvs.length + more.length ≤ sizeLine)
    (hQ : ∀ s', L2.Inv X pins σ (upd H p (.dK (mergeK kvs more))) s' → Q () s') : wpAny (model X.prog X.w) A (mergeMapping p (.ref a) false) Q E s := by
  obtain ⟨z1, y1, vs1, r1, d1⟩ := dk_rd I.hok (.inl hp)
  obtain ⟨z2, y2, vs2, r2, d2⟩ := dk_rd I.hok ha
  refine merge_any hpa y2 d1 d2 (by rw [← r2.length, ← r1.length]; exact hl) fun h' q1 _ q2 => ?_
  exact hQ _ (d_write (t' := s.toks) I (by rw [hp]; exact True.intro) q2 (let ⟨q, _, _, hq, _⟩ := q1; ⟨q, hq⟩) (dk_new (Nat.le_trans (length_mergeK more kvs) hl) y1 (r2.merge r1) q1))
/-- {**m, k: v} -/
def tDsp1 (tm tk tv : TE) : TE := fun σ H Q => ∀ p, H p = none → tm σ (upd H p (.dK [])) fun x H1 => H1 p = some (.dK []) ∧ ∃ a kvs, x = .ref a ∧ p ≠ a ∧ Rd H1 a (.dK kvs) ∧ kvs.length < 1000000 ∧
  ∀ q, upd H1 p (.dK kvs) q = none → tk σ (upd (upd H1 p (.dK kvs)) q (.dK [])) fun y H2 => tv σ H2 fun z H3 => ∃ key, y = kV key ∧ p ≠ q ∧ H3 p = some (.dK kvs) ∧ H3 q = some (.dK []) ∧ Q (.ref p) (upd (upd H3 q (.dK [(key, z)])) p (.dK (putK kvs key z)))
theorem pe_dsp1 (hm : PE X m tm) (hk : PE X k tk) (hv : PE X v tv) : PE X (.Dict [none, some k] [m, v] pos) (tDsp1 tm tk tv) := by
  refine ⟨fun pins s σ H Q I q => ?_⟩
  have hn := I.hok.fresh (Nat.le_refl s.heap.objs.size)
  have I1 := I.laid (a := s.heap.objs.size) (o := .dK []) (h' := s.heap.push { cls := .type "dict", data := .dict #[] }) (t' := s.toks) (fun _ _ q => Heap.get?_push_of_some _ q) (Nat.le_refl _) (dk_empty s.heap I.big)
  rw [arm_eval_Dict]
  refine wpAny_bind (wpAny_standAt ?_)
  show wpAny _ _ (dictDisplay [(none, do let x ← eval m X.env; standAt pos; pure x), (some (eval k X.env), do let x ← eval v X.env; standAt pos; pure x)]) _ _ _
  unfold dictDisplay
  simp only [List.forIn_cons, List.forIn_nil]
  refine wpAny_bind (wpAny_bind (wpAny_bind (wIfT rfl (wpAny_pure ?_))))
  dsimp only
  refine wpAny_bind (wpAny_alloc (wpAny_bind (wpAny_holding (wpAny_bind (thn (hm.run pins _ σ _ _ I1 (q _ hn)) fun u s1 ⟨x, H1, I2, rx, hp, a, kvs, ex, hpa, ha, hl, q2⟩ => ?_)))))
  subst ex
  cases (show u = Value.ref a from rx)
  refine wpAny_bind (wpAny_standAt (wpAny_pure (wpAny_bind (wpAny_onRaise (wpAny_tryCatch (wpAny_onRaise (wpAny_holding (merge0_I I2 hpa hp ha fun s2 I3 => ?_))))))))
  refine wpAny_pure ?_
  dsimp only
  refine wpAny_bind (wIfN (fun z => nomatch z) (wpAny_pure (wpAny_pure ?_)))
  dsimp only
  refine wpAny_bind (wIfN Bool.false_ne_true (wpAny_bind (wpAny_holding ?_)))
  have hn2 := I3.hok.fresh (Nat.le_refl s2.heap.objs.size)
  have I4 := I3.laid (a := s2.heap.objs.size) (o := .dK []) (h' := s2.heap.push { cls := .type "dict", data := .dict #[] }) (t' := s2.toks) (fun _ _ q => Heap.get?_push_of_some _ q) (Nat.le_refl _) (dk_empty s2.heap I3.big)
  refine wpAny_subDict (knd := mixKind X.prog X.w) (by show 1 ≤ 15; decide) ?_
  refine evalPairs_cons (thn (hk.run pins _ σ _ _ I4 (q2 _ hn2)) fun u s3 ⟨y, H2, I5, ry, q3⟩ => ?_)
  refine wpAny_bind (thn (hv.run pins _ σ _ _ I5 q3) fun u2 s4 ⟨z, H3, I6, rz, key, ey, hpq, hp3, hq3, q4⟩ => wpAny_bind (wpAny_standAt (wpAny_pure (evalPairs_nil ?_))))
  subst ey
  obtain ⟨w1, w2, vs0, r0, dd⟩ := dk_of I6.hok hq3
  cases r0
  refine ⟨[(key, u2)], ⟨kV_is ry, rfl, True.intro⟩, dd, fun h' dd' hs => ?_⟩
  have I7 := d_write (t' := s4.toks + [(u, u2)].length) (ob := .dK [(key, z)]) I6 (by rw [hq3]; exact True.intro) hs (let ⟨q, _, _, hq, _⟩ := dd'; ⟨q, hq⟩) (dk_new (by rw [sizeLine_eq]; show 1 ≤ 16777216; decide) w2 (.cons ⟨rfl, rz⟩ .nil) dd')
  refine wpAny_bind (wpAny_onRaise (wpAny_holding (merge_I I7 hpq (by rw [upd_ne hpq]; exact hp3) (.inl upd_same) (by rw [sizeLine_eq]; simp only [List.length_cons, List.length_nil]; omega) fun s5 I8 => ?_)))
  exact wpAny_pure (wpAny_pure ⟨.ref _, _, I8, rfl, q4⟩)
end
end DL
namespace DL
open PySem PySem.Spec PyProof.Rows L2
variable [TabC]
section
variable {K : PySem.W.Frag} {aS p : Addr} {H H' H0 : Hp} {A : AS} {A0 A1 : A0T} {O : List Nat} {σ : L2.St} {s : Ev} {n n' : Nat}
theorem LX.wide {E : XK} {xq : XQ} (L : LX K E aS A0 H0 xq) (hle : ∀ b, A0 b → A1 b) : LX K E aS A1 H0 xq := fun C fs n d H' kp st h q => by
  refine L C fs n d H' kp st ?_ q
  cases d with
  | none => exact h
  | some a =>
    obtain ⟨ys, e1, e2, e3⟩ := h
    exact ⟨ys, e1, e2, RepF.mono (sub_le fun b z => z.elim (fun z => .inl (hle b z)) .inr) _ _ e3⟩
theorem SR.h0 (S : SR K aS O A0 H0 σ H s n) (hp : H p = none) : H0 p = none := Option.eq_none_iff_forall_ne_some.mpr fun u z => S.fr.gone hp z fun e => by
  obtain ⟨xs, h⟩ := S.st.lst
  rw [← e, hp] at h
  cases h
theorem SR.ne (S : SR K aS O A0 H0 σ H s n) (hp : H p = none) : p ≠ aS := fun e => by
  obtain ⟨xs, h⟩ := S.st.lst
  rw [← e, hp] at h
  cases h
theorem rep_dic {d : List (Key × D)} {v : V} (h : Rep K aS H A (.dic d) v) : ∃ a ys, v = .ref a ∧ ¬ A a ∧ Rd H a (.dK ys) ∧ RepK K aS H A d ys := by rw [Rep] at h; exact h
end
def eDsp1 (mm mk mv : EM D) : EM D := fun xq s n Q => mm xq s n fun d n1 => ∃ kvs, d = .dic kvs ∧ kvs.length < LIM ∧ mk xq s n1 fun k n2 => ∃ kk, keyD k = some kk ∧ mv xq s n2 fun v n3 => Q (.dic (putD kvs kk v)) n3
section
variable {X : Cx} {E : XK} {O : List Nat} {m e k v : Expr} {mm me mk mv : EM D} {pos : Pos}
theorem vf_dsp1 (hm : VE X E O m mm) (hk : VE X E O k mk) (hv : VE X E O v mv) : VF X E O (.Dict [none, some k] [m, v] pos) (eDsp1 mm mk mv) := by
  obtain ⟨mn1, t1, p1, f1⟩ := hm
  obtain ⟨mn2, t2, p2, f2⟩ := hk
  obtain ⟨mn3, t3, p3, f3⟩ := hv
  refine ⟨fun xq s n Q Q' hq w => mn1 _ _ _ _ _ (fun d n1 ⟨kvs, e1, e2, w⟩ => ⟨kvs, e1, e2, mn2 _ _ _ _ _ (fun d n2 ⟨kk, e3, w⟩ => ⟨kk, e3, mn3 _ _ _ _ _ (fun d n3 w => hq _ _ w) w⟩) w⟩) w, _, pe_dsp1 p1 p2 p3, fun aS A0 H0 σ H s n xq Q S L hm p hp => ?_⟩
  have S1 := S.laidA (o := .dK []) hp
  have L1 : LX X.K E aS (A0T.mk (fun b => A0 b ∨ b = p) A0.z) H0 xq := L.wide fun b z => .inl z
  have ps := S.ne hp
  refine f1 aS _ H0 σ _ s n xq _ S1 L1 (mn1 _ _ _ _ _ (fun d1 n1 q1 v1 H1 k1 st1 r1 => ?_) hm)
  obtain ⟨kvs, e1, hl, q1⟩ := q1
  subst e1
  obtain ⟨a, ys, ev, na, ra, rk⟩ := rep_dic r1
  have hp1 : H1 p = some (.dK []) := k1.dk upd_same ps
  have hpa : p ≠ a := fun z => na (by rw [AV.plus]; exact .inr z.symm)
  have S2 := S1.step k1 st1
  have S3 := S2.poke (o' := .dK ys) (.inr rfl) ps hp1 (S.h0 hp) (fun _ z => by cases z) (fun _ _ z => by cases z)
  refine ⟨hp1, a, ys, ev, hpa, ra, ?_, fun q hq => ?_⟩
  · have := rk.length
    unfold LIM at hl
    omega
  have S4 := S3.laidA (o := .dK []) hq
  have hpq : p ≠ q := fun z => by rw [← z, upd_same] at hq; cases hq
  have qs := S3.ne hq
  have L2 := L1.wide (A1 := A0T.mk (fun b => (A0 b ∨ b = p) ∨ b = q) A0.z) fun b z => .inl z
  refine f2 aS _ H0 σ _ s n1 xq _ S4 L2 (mn2 _ _ _ _ _ (fun d2 n2 q2 v2 H2 k2 st2 r2 => ?_) q1)
  obtain ⟨kk, e2, q2⟩ := q2
  have S5 := S4.step k2 st2
  refine f3 aS _ H0 σ _ s n2 xq _ S5 L2 (mn3 _ _ _ _ _ (fun d3 n3 q3 v3 H3 k3 st3 r3 => ?_) q2)
  have S6 := S5.step k3 st3
  have kk6 := k2.trans k3
  have hp3 : H3 p = some (.dK ys) := kk6.dk (by rw [upd_ne hpq]; exact upd_same) ps
  have hq3 : H3 q = some (.dK []) := kk6.dk upd_same qs
  have S7 := S6.poke (o' := .dK [(kk, v3)]) (.inr rfl) qs hq3 (S3.h0 hq) (fun _ z => by cases z) (fun _ _ z => by cases z)
  have S8 := S7.poke (p := p) (o' := .dK (putK ys kk v3)) (.inl (.inr rfl)) ps (by rw [upd_ne hpq]; exact hp3) (S.h0 hp) (fun _ z => by cases z) (fun _ _ z => by cases z)
  refine ⟨kk, key_rep e2 (r2.b AV.st), hpq, hp3, hq3, q3 p _ hp ?_ S8.st ?_⟩
  · have z1 : KpS aS H H1 := (KpS.upd hp).trans k1
    have z2 : KpS aS H (upd H1 p (.dK ys)) := z1.upd2 hp
    have z3 : H q = none := Option.eq_none_iff_forall_ne_some.mpr fun u z => z2.gone hq z qs
    exact ((((z2.trans (KpS.upd hq)).trans kk6).upd2 z3).upd2 hp)
  · have ap : AV aS (fun b => A0 b ∨ b = p) O σ p := .inl (.inr rfl)
    have aq : AV aS (fun b => (A0 b ∨ b = p) ∨ b = q) O σ q := .inl (.inr rfl)
    have ap2 : AV aS (fun b => (A0 b ∨ b = p) ∨ b = q) O σ p := .inl (.inl (.inr rfl))
    have y1 := RepK.mono (sub_poke (o' := .dK ys) ap hp1 (fun _ z => by cases z)) _ _ rk
    have y2 := RepK.mono (sub_new (o := .dK []) hq) _ _ y1
    have y3 := RepK.kp k3 st2 (A := AV aS (fun b => (A0 b ∨ b = p) ∨ b = q) O σ) AV.st (RepK.kp k2 S4.st (A := AV aS (fun b => (A0 b ∨ b = p) ∨ b = q) O σ) AV.st (by rw [AV.plus]; exact y2))
    have y4 := y3.put kk r3
    have y5 := RepK.mono (sub_poke (o' := .dK [(kk, v3)]) aq hq3 (fun _ z => by cases z)) _ _ y4
    have y6 := RepK.mono (sub_poke (o' := .dK (putK ys kk v3)) ap2 (by rw [upd_ne hpq]; exact hp3) (fun _ z => by cases z)) _ _ y5
    refine ⟨_, upd_same, RepK.mono (sub_le fun b z => ?_) _ _ y6⟩
    rw [AV.plus, AV.plus]
    exact .inl z
end
end DL
namespace DL
open PySem PySem.Spec PyProof.Rows L2
variable [TabC]
/-! `{k: v, ..}` -/
section
variable {X : Cx} {E : XK} {O : List Nat} {k v : Expr} {ks : List (Option Expr)} {vs : List Expr} {mk mv : EM D} {mp : EM (List (D × D))} {pos : Pos}
end
end DL
namespace DL
open PySem PySem.Spec PyProof.Rows L2
variable [TabC]
/-! o[k] by an own __getitem__ -/
section
variable {X : Cx} {CX : CXT} {C f : Addr} {fd : FuncData} {ps : List Str} {sp : Sp} {E : XK} {k : Nat} {o e : Expr} {to te : TE} {pos : Pos}
end
section
variable {X : Cx} {E : XK} {O : List Nat} {e o : Expr} {mo me : EM D} {pos : Pos} {C : Str} {ps : List Str} {k k' : Nat} {sp : FSp}
end
end DL
namespace DL
open PySem PySem.Spec PyProof.Rows L2
/-! set(d) of a dict -/
section
variable {P : Program} {w : World} {A : Around} {E : Value → Shared → Prop} {s : Shared} {K : Type} [DecidableEq K] {knd : PySem.KeyKind P w K}
end
end DL
namespace DL
open PySem PySem.Spec PyProof.Rows L2
section
variable {P : Program} {w : World} {A : Around} {E : Value → Shared → Prop} {s : Shared} {K : Type} [DecidableEq K] {knd : PySem.KeyKind P w K}
end
end DL
namespace DL
open PySem PySem.Spec PyProof.Rows L2
section
variable {P : Program} {w : World} {A : Around} {E : Value → Shared → Prop} {s : Shared} {K : Type} [DecidableEq K] {knd : PySem.KeyKind P w K}
end
end DL
namespace DL
open PySem PySem.Spec PyProof.Rows L2
variable [TabC]
section
variable {X : Cx}
end
section
variable {X : Cx} {E : XK} {O : List Nat} {a b : Expr} {ma mb : EM D} {pos p1 p2 q1 q2 : Pos}
end
end DL
namespace DL
open PySem PySem.Spec PyProof.Rows L2
variable [TabC]
/-! displays of dicts, sets of keys, items of own classes -/
section
variable {X : Cx} {E : XK} {O : List Nat} {a b c o : FM D}
def asDi : D → Res (List (Key × D))
  | .dic kvs => .ok kvs
  | _ => .bad
theorem wp_asDi {d : D} {xq : XQ} {n : Nat} {Q : List (Key × D) → Nat → Prop} (h : (asDi d).wp xq n Q) : ∃ kvs, d = .dic kvs ∧ Q kvs n := by
  unfold asDi at h
  split at h
  · exact ⟨_, rfl, h⟩
  · exact h.elim
def fDsp1 (a k v : FM D) : FM D := fun s => (a s).bind fun d => (asDi d).bind fun kvs => if kvs.length < LIM then (k s).bind fun kd => (ofO (keyD kd)).bind fun kk => (v s).bind fun x => .ok (.dic (putD kvs kk x)) else .bad
theorem le_dsp1 : ∀ xq s n Q, up (fDsp1 a b c) xq s n Q → eDsp1 (up a) (up b) (up c) xq s n Q := fun xq s n Q h => by
  unfold eDsp1 up
  refine wp_mono (fun d h => ?_) (wp_bind h)
  obtain ⟨kvs, e, h⟩ := wp_asDi (wp_bind h)
  obtain ⟨l, h⟩ := wp_dec h
  refine ⟨kvs, e, l, wp_mono (fun kd h => ?_) (wp_bind h)⟩
  obtain ⟨kk, e2, h⟩ := wp_ofO (wp_bind h)
  exact ⟨kk, e2, wp_bind h⟩
end
end DL
namespace DL
open PySem PySem.Spec PyProof.Rows L2
variable [TabC]
/-! raise X() -/
section
variable {X : Cx} {E : XK} {O O' OL : List Nat} {pos p rpos : Pos} {x : Str}
end
end DL
namespace DL
open PySem PySem.Spec PyProof.Rows L2
variable [TabC]
/-! three targets -/
section
variable {X : Cx} {E : XK} {O OL : List Nat} {a b c : Expr} {ma mb mc : EM D} {pos : Pos} {i j l : Nat} {x y z : Str}
end
end DL
namespace DL
open PySem PySem.Spec PyProof.Rows L2
variable [TabC]
/-! ### plain steps -/
abbrev sOk (x : Str) : Prop := PyData.strOk x = true
theorem okD_str {x : Str} (h : sOk x) : okD (.str x) = true := by
  unfold okD SeqAt.shaped
  simp only [toPD, PyData.canLay0, PyData.depth]
  rw [h]
  rfl
theorem okD_int (i : Int) : okD (.int i) = true := by
  unfold okD SeqAt.shaped
  simp only [toPD, PyData.canLay0, PyData.depth]
  rfl
theorem pyEq_str (x y : Str) : pyEq (.str x) (.str y) = (x == y) := by
  unfold pyEq
  simp only [toPD, PyData.eqv]
theorem pyEq_int (x y : Int) : pyEq (.int x) (.int y) = (x == y) := by
  unfold pyEq
  simp only [toPD, PyData.eqv]
theorem dEq_str {x y : Str} (hx : sOk x) (hy : sOk y) : dEq (.str x) (.str y) = some (.bl (x == y)) := by
  unfold dEq
  rw [okD_str hx, okD_str hy, pyEq_str]
  rfl
theorem dNe_str {x y : Str} (hx : sOk x) (hy : sOk y) : dNe (.str x) (.str y) = some (.bl (!(x == y))) := by
  unfold dNe
  rw [okD_str hx, okD_str hy, pyEq_str]
  rfl
theorem dEq_int {x y : Int} : dEq (.int x) (.int y) = some (.bl (x == y)) := by
  unfold dEq
  rw [okD_int, okD_int, pyEq_int]
  rfl
theorem dNe_int {x y : Int} : dNe (.int x) (.int y) = some (.bl (!(x == y))) := by
  unfold dNe
  rw [okD_int, okD_int, pyEq_int]
  rfl
theorem lay_all : ∀ xs : List D, (∀ x ∈ xs, (toPD x).canLay0 = true) → PyData.canLayAll0 (toPDs xs) = true
  | [], _ => by simp only [toPDs, PyData.canLayAll0]
  | x :: xs, h => by
    simp only [toPDs, PyData.canLayAll0, Bool.and_eq_true]
    exact ⟨h x List.mem_cons_self, lay_all xs fun y hy => h y (List.mem_cons_of_mem _ hy)⟩
theorem depth_all {k : Nat} : ∀ xs : List D, (∀ x ∈ xs, (toPD x).depth ≤ k) → PyData.depthAll (toPDs xs) ≤ k
  | [], _ => by simp only [toPDs, PyData.depthAll]; omega
  | x :: xs, h => by
    simp only [toPDs, PyData.depthAll]
    have h1 := h x List.mem_cons_self
    have h2 := depth_all xs fun y hy => h y (List.mem_cons_of_mem _ hy)
    omega
/-- what can be compared, so deep -/
structure OkN (k : Nat) (d : D) : Prop where
  lay : (toPD d).canLay0 = true
  dep : (toPD d).depth ≤ k
theorem OkN.ok {k : Nat} {d : D} (h : OkN k d) (hk : k ≤ 64) : okD d = true := by
  unfold okD SeqAt.shaped
  rw [h.lay, decide_eq_true (by have := h.dep; omega)]
  rfl
theorem OkN.str {k : Nat} {x : Str} (h : sOk x) : OkN k (.str x) := ⟨by simp only [toPD, PyData.canLay0]; exact h, by simp only [toPD, PyData.depth]; omega⟩
theorem OkN.lst {k : Nat} {xs : List D} (h : ∀ x ∈ xs, OkN k x) : OkN (k + 1) (.lst xs) := ⟨by simp only [toPD, PyData.canLay0]; exact lay_all xs fun x hx => (h x hx).lay, by
  simp only [toPD, PyData.depth]
  exact Nat.succ_le_succ (depth_all xs fun x hx => (h x hx).dep)⟩
theorem dNe_ok {a b : D} (ha : okD a = true) (hb : okD b = true) : dNe a b = some (.bl (!pyEq a b)) := by
  unfold dNe
  rw [ha, hb]
  rfl
theorem ok_strs {xs : List Str} (h : ∀ x ∈ xs, sOk x) : okD (.lst (xs.map .str)) = true := (OkN.lst (k := 0) fun d hd => by
  obtain ⟨x, hx, rfl⟩ := List.mem_map.mp hd
  exact .str (h x hx)).ok (by decide)
theorem any_strs {x : Str} : ∀ (xs : List Str), ((xs.map D.str).any fun y => pyEq y (.str x)) = decide (x ∈ xs)
  | [] => rfl
  | y :: ys => by
    rw [List.map_cons, List.any_cons, any_strs ys, pyEq_str]
    by_cases e : y = x
    · subst e; simp
    · have e2 : ¬ x = y := fun z => e z.symm
      simp [e, e2]
theorem dInB_strs {x : Str} {xs : List Str} (hx : sOk x) (h : ∀ x ∈ xs, sOk x) : dInB (.str x) (.lst (xs.map .str)) = some (decide (x ∈ xs)) := by
  show (if (okD (.str x) && okD (.lst (xs.map .str))) = true then some ((xs.map D.str).any fun y => pyEq y (.str x)) else none) = _
  rw [okD_str hx, ok_strs h, any_strs]
  rfl
theorem dIn_strs {x : Str} {xs : List Str} (hx : sOk x) (h : ∀ x ∈ xs, sOk x) : dIn (.str x) (.lst (xs.map .str)) = some (.bl (decide (x ∈ xs))) := by
  unfold dIn
  rw [dInB_strs hx h]
  rfl
theorem dNotIn_strs {x : Str} {xs : List Str} (hx : sOk x) (h : ∀ x ∈ xs, sOk x) : dNotIn (.str x) (.lst (xs.map .str)) = some (.bl (!decide (x ∈ xs))) := by
  unfold dNotIn
  rw [dInB_strs hx h]
  rfl
/-! lists, by places -/
theorem dIdx_lst {xs : List D} {k : Nat} : dIdx (.lst xs) (.int (k : Int)) = xs[k]? := atI_nat xs k
theorem dIdx_tup {xs : List D} {k : Nat} : dIdx (.tup xs) (.int (k : Int)) = xs[k]? := atI_nat xs k
/-! dicts of texts, typed: a list of pairs and a function to data -/
def mapD {α : Type} (f : α → D) (l : List (Str × α)) : List (Key × D) := l.map fun p => (.inr p.1, f p.2)
theorem lookK_map {α : Type} (f : α → D) (x : Str) : ∀ l : List (Str × α), lookK (mapD f l) (.inr x) = (l.lookup x).map f
  | [] => rfl
  | (y, a) :: l => by
    have ih := lookK_map f x l
    unfold lookK mapD at ih ⊢
    rw [List.map_cons, List.find?_cons, List.lookup_cons]
    by_cases e : x = y
    · subst e
      simp
    · have e1 : ¬ (Sum.inr y : Key) = Sum.inr x := fun z => e (Sum.inr.inj z).symm
      have e2 : (x == y) = false := by simpa using e
      rw [e2]
      simp only [e1, decide_false]
      exact ih
theorem dIdx_map {α : Type} {f : α → D} {x : Str} {l : List (Str × α)} : dIdx (.dic (mapD f l)) (.str x) = (l.lookup x).map f := lookK_map f x l
theorem keys_map {α : Type} (f : α → D) (l : List (Str × α)) : keysD (mapD f l) = (l.map (·.1)).map .str := by
  unfold keysD mapD
  rw [List.map_map, List.map_map, List.map_map]
  rfl
theorem dList_map {α : Type} (f : α → D) (l : List (Str × α)) : dList [.dic (mapD f l)] = some (.lst ((l.map (·.1)).map .str)) := by
  show some (D.lst (keysD (mapD f l))) = _
  rw [keys_map]
theorem items_map {α : Type} (f : α → D) (l : List (Str × α)) : itemsD (mapD f l) = l.map fun p => .tup [.str p.1, f p.2] := by
  unfold itemsD mapD
  rw [List.map_map]
  rfl
theorem look_some {α : Type} {x : Str} {a : α} : ∀ {l : List (Str × α)}, l.lookup x = some a → (x, a) ∈ l
  | (y, b) :: l, h => by
    rw [List.lookup_cons] at h
    by_cases e : x = y
    · subst e
      simp at h
      subst h
      exact List.mem_cons_self
    · have e2 : (x == y) = false := by simpa using e
      rw [e2] at h
      exact List.mem_cons_of_mem _ (look_some h)
theorem look_of {α : Type} {x : Str} {a : α} : ∀ {l : List (Str × α)}, (l.map (·.1)).Nodup → (x, a) ∈ l → l.lookup x = some a
  | (y, b) :: l, hn, h => by
    rw [List.map_cons, List.nodup_cons] at hn
    rw [List.lookup_cons]
    rcases List.mem_cons.mp h with e | hm
    · cases e
      simp
    · have e : x ≠ y := fun z => hn.1 (by subst z; exact List.mem_map.mpr ⟨(x, a), hm, rfl⟩)
      have e2 : (x == y) = false := by simpa using e
      rw [e2]
      exact look_of hn.2 hm
theorem look_none {α : Type} {x : Str} : ∀ {l : List (Str × α)}, x ∉ l.map (·.1) → l.lookup x = none
  | [], _ => rfl
  | (y, b) :: l, h => by
    rw [List.map_cons, List.mem_cons, not_or] at h
    rw [List.lookup_cons]
    have e2 : (x == y) = false := by simpa using h.1
    rw [e2]
    exact look_none h.2
theorem look_mem {α : Type} {x : Str} {l : List (Str × α)} (h : x ∈ l.map (·.1)) : ∃ a, l.lookup x = some a := by
  induction l with
  | nil => cases h
  | cons p l ih =>
    obtain ⟨y, b⟩ := p
    rw [List.lookup_cons]
    by_cases e : x = y
    · subst e
      exact ⟨b, by simp⟩
    · have e2 : (x == y) = false := by simpa using e
      rw [e2]
      rcases List.mem_cons.mp h with z | z
      · exact absurd z e
      · exact ih z
theorem put_new {α : Type} {f : α → D} {l : List (Str × α)} {x : Str} {a : α} (h : x ∉ l.map (·.1)) : putD (mapD f l) (.inr x) (f a) = mapD f (l ++ [(x, a)]) := by
  unfold putD
  rw [lookK_map, look_none h]
  show (mapD f l).concat _ = _
  unfold mapD
  rw [List.concat_eq_append, List.map_append]
  rfl
/-! steps -/
theorem runB_rt {N : List Str} {b : FS} {ds : List D} {d : D} (h : b (startD N ds) = .rt d) : runB N b ds = .ok d := by
  unfold runB
  rw [h]
theorem runB_nx {N : List Str} {b : FS} {ds : List D} {s : Ev} (h : b (startD N ds) = .nx s) : runB N b ds = .ok .non := by
  unfold runB
  rw [h]
theorem runI_nx {C : Str} {N : List Str} {b : FS} {ds : List D} {s : Ev} {d : D} (h : b (startD N (.obj C [] :: ds)) = .nx s) (h2 : objAt C s = .ok d) : runI C N b ds = .ok d := by
  unfold runI
  rw [h]
  exact h2
section
variable {s s' : Ev} {f g : FS} {o : SO} {a b c : FM D} {t u : FM Bool} {l : FM (List D)} {d d' : D}
theorem seqN (h : f s = .nx s') (h2 : g s' = o) : fSeq f g s = o := by
  unfold fSeq
  rw [h]
  exact h2
theorem seqR (h : f s = .rt d) : fSeq f g s = .rt d := by
  unfold fSeq
  rw [h]
theorem retE (h : a s = .ok d) : fRet a s = .rt d := by
  unfold fRet
  rw [h]
  rfl
theorem setE {i : Nat} (h : a s = .ok d) : fSet i a s = .nx (s.set i (some d)) := by
  unfold fSet
  rw [h]
  rfl
theorem setFE {i : Nat} (hi : i < s.length) (h : a s = .ok d) : fSetF i a s = .nx (s.set i (some d)) := by
  unfold fSetF
  rw [h, if_pos hi]
  rfl
theorem dropE (h : a s = .ok d) : fDrop a s = .nx s := by
  unfold fDrop
  rw [h]
  rfl
theorem ifsT (h : t s = .ok true) (h2 : f s = o) : fIfS t f g s = o := by
  unfold fIfS
  rw [h]
  exact h2
theorem ifsF (h : t s = .ok false) (h2 : g s = o) : fIfS t f g s = o := by
  unfold fIfS
  rw [h]
  exact h2
theorem forE {i : FM (List D)} {g : FG} {ds : List D} (h : i s = .ok ds) (h2 : fForL g f ds s = o) : fFor i g f s = o := by
  unfold fFor
  rw [h]
  exact h2
theorem forDE {p : Ev → Option D} {k : List (Key × D) → List D} {g : FG} {kvs : List (Key × D)} (h : p s = some (.dic kvs)) (h2 : fForL g f (k kvs) s = o) : fForD p k g f s = o := by
  unfold fForD
  rw [h]
  exact h2
theorem parFFE {i j : Nat} (hi : i < s.length) (hj : j < s.length) (h : a s = .ok d) (h2 : b s = .ok d') : fParFF i j a b s = .nx ((s.set i (some d)).set j (some d')) := by
  unfold fParFF
  rw [h, h2, if_pos ⟨hi, hj⟩]
  rfl
theorem appE {i : Nat} {ds : List D} (h : s[i]? = some (some (.lst ds))) (h2 : a s = .ok d) (hl : ds.length < LIM) : fApp i a s = .nx (s.set i (some (.lst (ds ++ [d])))) := by
  unfold fApp lstAt
  rw [h]
  show (a s).so _ = _
  rw [h2]
  show (if ds.length < LIM then _ else _) = _
  rw [if_pos hl]
theorem insE {i k : Nat} {ds : List D} (h : s[i]? = some (some (.lst ds))) (h2 : l s = .ok [.int k, d]) (hl : ds.length < LIM) (hk : k ≤ LIM) : fIns i l s = .nx (s.set i (some (.lst (ds.take k ++ [d] ++ ds.drop k)))) := by
  unfold fIns lstAt
  rw [h]
  show (l s).so _ = _
  rw [h2]
  have e : asIns [.int (k : Int), d] = some (k, d) := by simp [asIns]
  simp only [Res.so, e, ofO]
  rw [if_pos ⟨hl, hk⟩]
theorem dputE {i : Nat} {kvs : List (Key × D)} {kk : Key} (h : a s = .ok d) (h2 : b s = .ok d') (hk : keyD d' = some kk) (h3 : s[i]? = some (some (.dic kvs))) (hl : kvs.length < LIM) : fDput i b a s = .nx (s.set i (some (.dic (putD kvs kk d)))) := by
  unfold fDput
  rw [h]
  show (b s).so _ = _
  rw [h2]
  show (ofO (keyD d')).so _ = _
  rw [hk]
  show dicAt s i _ = _
  unfold dicAt
  rw [h3]
  show (if kvs.length < LIM then _ else _) = _
  rw [if_pos hl]
theorem fldSE {i : Nat} {C g : Str} {fs : List (Str × D)} (h : a s = .ok d) (h2 : s[i]? = some (some (.obj C fs))) (hl : fs.length < 1000) : fFldS i C g a s = .nx (s.set i (some (.obj C (putFD g d fs)))) := by
  unfold fFldS
  rw [h]
  show (match s[i]? with | some (some (.obj C' fs)) => _ | _ => _) = _
  rw [h2]
  show (if C = C ∧ fs.length < 1000 then _ else _) = _
  rw [if_pos ⟨rfl, hl⟩]
/-! expressions -/
theorem binE {f : D → D → Option D} {x y : D} (h : a s = .ok x) (h2 : b s = .ok y) (h3 : f x y = some d) : fBin f a b s = .ok d := by
  unfold fBin
  rw [h, h2]
  show ofO (f x y) = _
  rw [h3]
  rfl
theorem binTE {f : D → D → Option D} {x y : D} {k : Bool} (h : a s = .ok x) (h2 : b s = .ok y) (h3 : f x y = some (.bl k)) : fBinT f a b s = .ok k := by
  unfold fBinT
  rw [h, h2]
  show ofB (f x y) = _
  rw [h3]
  rfl
theorem bltE {f : List D → Option D} {xs : List D} (h : l s = .ok xs) (h3 : f xs = some d) : fBlt f l s = .ok d := by
  unfold fBlt
  rw [h]
  show ofO (f xs) = _
  rw [h3]
  rfl
theorem consE {ds : List D} (h : a s = .ok d) (h2 : l s = .ok ds) : fCons a l s = .ok (d :: ds) := by
  unfold fCons
  rw [h, h2]
  rfl
theorem tupE {ds : List D} (h : l s = .ok ds) (hl : ds.length ≤ 1000) : fTup l s = .ok (.tup ds) := by
  unfold fTup
  rw [h]
  show (if ds.length ≤ 1000 then _ else _) = _
  rw [if_pos hl]
theorem lstE {ds : List D} (h : l s = .ok ds) (hl : ds.length ≤ 1000) : fLst l s = .ok (.lst ds) := by
  unfold fLst
  rw [h]
  show (if ds.length ≤ 1000 then _ else _) = _
  rw [if_pos hl]
theorem valE {k : Bool} (h : a s = .ok (.bl k)) : fVal a s = .ok k := by
  unfold fVal
  rw [h]
  rfl
theorem notTE {k : Bool} (h : t s = .ok k) : fNotT t s = .ok (!k) := by
  unfold fNotT
  rw [h]
  rfl
theorem orT (h : a s = .ok (.bl true)) : fOr a b s = .ok (.bl true) := by
  unfold fOr
  rw [h]
  rfl
theorem orF {r : Res D} (h : a s = .ok (.bl false)) (h2 : b s = r) : fOr a b s = r := by
  unfold fOr
  rw [h]
  exact h2
theorem andTT {r : Res Bool} (h : t s = .ok true) (h2 : u s = r) : fAndT t u s = r := by
  unfold fAndT
  rw [h]
  exact h2
theorem andTF (h : t s = .ok false) : fAndT t u s = .ok false := by
  unfold fAndT
  rw [h]
  rfl
theorem orTF {r : Res Bool} (h : t s = .ok false) (h2 : u s = r) : fOrT t u s = r := by
  unfold fOrT
  rw [h]
  exact h2
theorem iteT {r : Res D} (h : t s = .ok true) (h2 : a s = r) : fIf t a b s = r := by
  unfold fIf
  rw [h]
  exact h2
theorem iteF {r : Res D} (h : t s = .ok false) (h2 : b s = r) : fIf t a b s = r := by
  unfold fIf
  rw [h]
  exact h2
theorem callE {len : Nat} {f : FFn} {dds ds : List D} {r : Res D} (h : l s = .ok ds) (hl : (ds ++ dds).length = len) (h2 : f (ds ++ dds) = r) : fCall len f dds l s = r := by
  unfold fCall
  rw [h]
  show (if (ds ++ dds).length = len then _ else _) = _
  rw [if_pos hl]
  exact h2
theorem makeE {len : Nat} {f : FFn} {dds ds : List D} (h : l s = .ok ds) (hl : (ds ++ dds).length + 1 = len) (h2 : f (ds ++ dds) = .ok d) (h3 : isObj d = true) : fMake len f dds l s = .ok d := by
  unfold fMake
  rw [h]
  show (if (ds ++ dds).length + 1 = len then _ else _) = _
  rw [if_pos hl, h2]
  show (if isObj d = true then _ else _) = _
  rw [if_pos h3]
theorem methE {C mn : Str} {len : Nat} {f : FFn} {dds ds : List D} {fs : List (Str × D)} {r : Res D} (ho : a s = .ok (.obj C fs)) (hn : fs.lookup mn = none) (h : l s = .ok ds) (hl : (D.obj C fs :: (ds ++ dds)).length = len) (h2 : f (.obj C fs :: (ds ++ dds)) = r) : fMeth C mn len f dds a l s = r := by
  unfold fMeth
  rw [ho]
  show (if C = C ∧ fs.lookup mn = none then _ else _) = _
  rw [if_pos ⟨rfl, hn⟩, h]
  show (if (D.obj C fs :: (ds ++ dds)).length = len then _ else _) = _
  rw [if_pos hl]
  exact h2
theorem fldE {C g : Str} {fs : List (Str × D)} (ho : a s = .ok (.obj C fs)) (h : fs.lookup g = some d) : fFld C g a s = .ok d := by
  unfold fFld
  rw [ho]
  show (if C = C then _ else _) = _
  rw [if_pos rfl, h]
  rfl
theorem lcE {i : FM (List D)} {hs : List Nat} {g : FG} {ds xs : List D} (h : i s = .ok ds) (hl : ds.length ≤ LIM) (h2 : fLcL g t a (hideL s hs) ds = .ok xs) : fLc i hs g t a s = .ok (.lst xs) := by
  unfold fLc
  rw [h]
  show (if ds.length ≤ LIM then _ else _) = _
  rw [if_pos hl, h2]
  rfl
theorem dcE {i : FM (List D)} {hs : List Nat} {g : FG} {ds : List D} {xs : List (Key × D)} (h : i s = .ok ds) (hl : ds.length ≤ LIM) (h2 : fDcL g t a b (hideL s hs) ds [] = .ok xs) : fDc i hs g t a b s = .ok (.dic xs) := by
  unfold fDc
  rw [h]
  show (if ds.length ≤ LIM then _ else _) = _
  rw [if_pos hl, h2]
  rfl
theorem dgetE {kvs : List (Key × D)} {kk : Key} {kd : D} (h : a s = .ok (.dic kvs)) (h2 : b s = .ok kd) (hk : keyD kd = some kk) (h3 : c s = .ok d) : fDget a b c s = .ok ((lookK kvs kk).getD d) := by
  unfold fDget
  rw [h]
  show (b s).bind _ = _
  rw [h2]
  show (c s).bind _ = _
  rw [h3]
  show (ofO (keyD kd)).bind _ = _
  rw [hk]
  rfl
theorem iterE {ds : List D} (h : a s = .ok d) (h2 : dIter d = some ds) : fIter a s = .ok ds := by
  unfold fIter
  rw [h]
  show ofO (dIter d) = _
  rw [h2]
  rfl
theorem dsp1E {kvs : List (Key × D)} {kk : Key} {kd : D} (h : a s = .ok (.dic kvs)) (hl : kvs.length < LIM) (h2 : b s = .ok kd) (hk : keyD kd = some kk) (h3 : c s = .ok d) : fDsp1 a b c s = .ok (.dic (putD kvs kk d)) := by
  unfold fDsp1
  rw [h]
  show (if kvs.length < LIM then _ else _) = _
  rw [if_pos hl, h2]
  show (ofO (keyD kd)).bind _ = _
  rw [hk]
  show (c s).bind _ = _
  rw [h3]
  rfl
end
/-! loops -/
theorem for_inv {g : FG} {b : FS} (I : Ev → Prop) : ∀ (ds : List D) (s : Ev), I s → (∀ d ∈ ds, ∀ s, I s → ∃ s1, g d s = some s1 ∧ ∃ s2, b s1 = .nx s2 ∧ I s2) → ∃ s', fForL g b ds s = .nx s' ∧ I s'
  | [], s, h, _ => ⟨s, rfl, h⟩
  | d :: ds, s, h, st => by
    obtain ⟨s1, e1, s2, e2, h2⟩ := st d List.mem_cons_self s h
    obtain ⟨s', e3, h3⟩ := for_inv I ds s2 h2 fun d hd => st d (List.mem_cons_of_mem _ hd)
    refine ⟨s', ?_, h3⟩
    rw [fForL, e1]
    show (match b s1 with | .nx s2 => fForL g b ds s2 | .ct s2 => fForL g b ds s2 | .bk s2 => .nx s2 | o => o) = _
    rw [e2]
    exact e3
/-- .. with what was walked already -/
theorem for_go {α : Type} {g : FG} {b : FS} (f : α → D) (I : List α → Ev → Prop) (L : List α) (st : ∀ acc d post s, acc ++ d :: post = L → I acc s → ∃ s1, g (f d) s = some s1 ∧ ∃ s2, b s1 = .nx s2 ∧ I (acc ++ [d]) s2) : ∀ (ds acc : List α) (s : Ev), acc ++ ds = L → I acc s → ∃ s', fForL g b (ds.map f) s = .nx s' ∧ I L s'
  | [], acc, s, e, h => ⟨s, rfl, by rw [List.append_nil] at e; rw [← e]; exact h⟩
  | d :: ds, acc, s, e, h => by
    obtain ⟨s1, e1, s2, e2, h2⟩ := st acc d ds s e h
    obtain ⟨s', e3, h3⟩ := for_go f I L st ds (acc ++ [d]) s2 (by rw [List.append_assoc]; exact e) h2
    refine ⟨s', ?_, h3⟩
    rw [List.map_cons, fForL, e1]
    show (match b s1 with | .nx s2 => fForL g b _ s2 | .ct s2 => fForL g b _ s2 | .bk s2 => .nx s2 | o => o) = _
    rw [e2]
    exact e3
theorem for_acc {α : Type} {g : FG} {b : FS} (f : α → D) (I : List α → Ev → Prop) (L : List α) {s : Ev} (h0 : I [] s) (st : ∀ acc d post s, acc ++ d :: post = L → I acc s → ∃ s1, g (f d) s = some s1 ∧ ∃ s2, b s1 = .nx s2 ∧ I (acc ++ [d]) s2) : ∃ s', fForL g b (L.map f) s = .nx s' ∧ I L s' := for_go f I L st L [] s rfl h0
theorem lc_filter {α : Type} {g : FG} {t : FM Bool} {e : FM D} {s0 : Ev} (f : α → D) (p : α → Bool) (v : α → D) : ∀ ds : List α, (∀ d ∈ ds, ∃ s1, g (f d) s0 = some s1 ∧ t s1 = .ok (p d) ∧ (p d = true → e s1 = .ok (v d))) → fLcL g t e s0 (ds.map f) = .ok ((ds.filter p).map v)
  | [], _ => rfl
  | d :: ds, h => by
    obtain ⟨s1, e1, e2, e3⟩ := h d List.mem_cons_self
    have ih := lc_filter f p v ds fun d hd => h d (List.mem_cons_of_mem _ hd)
    rw [List.map_cons, fLcL, e1]
    show (t s1).calm.bind _ = _
    rw [e2]
    show (if p d = true then _ else _) = _
    cases hp : p d with
    | false =>
      rw [if_neg (by decide), ih, List.filter_cons, hp]
      rfl
    | true =>
      rw [if_pos rfl, e3 hp, ih, List.filter_cons, hp]
      rfl
theorem lc_map {α : Type} {g : FG} {e : FM D} {s0 : Ev} (f : α → D) (v : α → D) (ds : List α) (h : ∀ d ∈ ds, ∃ s1, g (f d) s0 = some s1 ∧ e s1 = .ok (v d)) : fLcL g fYes e s0 (ds.map f) = .ok (ds.map v) := by
  have := lc_filter (g := g) (t := fYes) (e := e) (s0 := s0) f (fun _ => true) v ds fun d hd => by
    obtain ⟨s1, e1, e2⟩ := h d hd
    exact ⟨s1, e1, rfl, fun _ => e2⟩
  rw [this, List.filter_eq_self.mpr fun _ _ => rfl]
/-- a dict by a comprehension over unlike names -/
theorem dc_map {α β : Type} {g : FG} {k e : FM D} {s0 : Ev} (f : α → D) (kx : α → Str) (v : α → β) (vd : β → D) : ∀ (ds : List α) (acc : List (Str × β)), (acc.map (·.1) ++ ds.map kx).Nodup → (∀ d ∈ ds, ∃ s1, g (f d) s0 = some s1 ∧ k s1 = .ok (.str (kx d)) ∧ e s1 = .ok (vd (v d))) →
    fDcL g fYes k e s0 (ds.map f) (mapD vd acc) = .ok (mapD vd (acc ++ ds.map fun d => (kx d, v d)))
  | [], acc, _, _ => by rw [List.map_nil, List.map_nil, List.append_nil]; rfl
  | d :: ds, acc, hn, h => by
    obtain ⟨s1, e1, e2, e3⟩ := h d List.mem_cons_self
    have hd : kx d ∉ acc.map (·.1) := fun z => by
      rw [List.map_cons] at hn
      exact (List.nodup_append.mp hn).2.2 _ z _ List.mem_cons_self rfl
    rw [List.map_cons, fDcL, e1]
    show (k s1).calm.bind _ = _
    rw [e2]
    show (e s1).calm.bind _ = _
    rw [e3]
    show fDcL g fYes k e s0 (ds.map f) (putD (mapD vd acc) (.inr (kx d)) (vd (v d))) = _
    rw [put_new hd, dc_map f kx v vd ds (acc ++ [(kx d, v d)]) (by rw [List.map_append, List.append_assoc]; exact hn) fun d hd => h d (List.mem_cons_of_mem _ hd), List.append_assoc]
    rfl
end DL
namespace DL
open PySem PySem.Spec PyProof.Rows L2
variable [TabC]
/-! ### == and != of dicts, by data -/
def eqK (kvs more : List (Key × D)) : Bool := kvs.all fun p => match lookK more p.1 with
  | some d => pyEq p.2 d
  | none => false
def okK (kvs : List (Key × D)) : Bool := kvs.all fun p => okD p.2
theorem look_ok {kvs : List (Key × D)} {k : Key} {d : D} (h : okK kvs = true) (e : lookK kvs k = some d) : okD d = true := by
  unfold lookK at e
  cases z : kvs.find? fun kv => decide (kv.1 = k) with
  | none => rw [z] at e; cases e
  | some p =>
    rw [z] at e
    cases e
    exact List.all_eq_true.mp h p (List.mem_of_find?_eq_some z)
section
variable {X : Cx} {pins : List (Addr × Obj)} {σ : L2.St} {H : Hp} {s : Shared} {aS : Addr} {A : AS}
/-- two things by data, compared -/
theorem eqP_data (I : Inv X pins σ H s) {B : Around} {d e : D} {v u : V} {x y : Value} (hd : okD d = true) (he : okD e = true) (r1 : Rep X.K aS H A d v) (r2 : Rep X.K aS H A e u) (q1 : RelV v x) (q2 : RelV u y) (hu : B.units + 64 < cLine) : SeqAt.EqP X.prog X.w B s x y (pyEq d e) := by
  obtain ⟨as, z1⟩ := Dp.reads I _ _ _ (Rep.dp d v (okD_lay hd) r1) q1
  obtain ⟨bs, z2⟩ := Dp.reads I _ _ _ (Rep.dp e u (okD_lay he) r2) q2
  have m : B.units + min (toPD d).depth (toPD e).depth < cLine := by
    unfold okD SeqAt.shaped at hd
    have := of_decide_eq_true (Bool.and_eq_true_iff.mp hd).2
    omega
  exact fun E Q q => SeqAt.eqAt_reads _ _ B s x y as bs z1 z2 (okD_lay hd) (okD_lay he) m _ _ E Q q
theorem hits_data (I : Inv X pins σ H s) {B : Around} (hu : B.units + 64 < cLine) {more : List (Key × D)} {ls : List (Key × V)} {vb : List (Key × Value)} (om : okK more = true) (rm : RepK X.K aS H A more ls) (rb : KV ls vb) :
    ∀ (kvs : List (Key × D)) (ks : List (Key × V)) (va : List (Key × Value)), okK kvs = true → RepK X.K aS H A kvs ks → KV ks va → PySem.W.KeqHitsP X.prog X.w B s vb va (eqK kvs more)
  | [], ks, va, _, r, ra => by
    rw [RepK] at r
    subst r
    cases ra
    exact .nil
  | (k, d) :: kvs, ks, va, ok, r, ra => by
    rw [RepK] at r
    obtain ⟨v, vr, e, r1, q⟩ := r
    subst e
    cases ra with
    | @cons p qv ps qs h t =>
      obtain ⟨h1, h2⟩ := h
      obtain ⟨key, x⟩ := qv
      have h1 : k = key := h1
      subst h1
      have h2 : RelV v x := h2
      have ok1 : okD d = true := (Bool.and_eq_true_iff.mp (show (okD d && okK kvs) = true from ok)).1
      have ok2 : okK kvs = true := (Bool.and_eq_true_iff.mp (show (okD d && okK kvs) = true from ok)).2
      have rr : RelO (valV ls k) (valueAt vb k) := rb.val k
      have unf : eqK ((k, d) :: kvs) more = ((match lookK more k with | some d' => pyEq d d' | none => false) && eqK kvs more) := rfl
      rw [unf]
      rcases rm.val k with ⟨z1, z2⟩ | ⟨d', v', z1, z2, z3⟩
      · rw [z2] at rr
        rw [z1]
        exact .miss (by cases hv : valueAt vb k with | none => rfl | some y => rw [hv] at rr; cases rr)
      · rw [z2] at rr
        obtain ⟨y, hy, ry⟩ := rr.some_of
        rw [z1]
        exact .hit hy (eqP_data I ok1 (look_ok om z1) r1 z3 h2 ry hu) (hits_data I hu om rm rb kvs vr qs ok2 q t)
end
/-- == with dicts -/
def dEqX (a b : D) : Option D := match a, b with
  | .dic kvs, .dic more => if (okK kvs && okK more) = true then some (.bl (kvs.length == more.length && eqK kvs more)) else none
  | a, b => dEq a b
theorem RepK.len {K : PySem.W.Frag} {aS : Addr} {H : Hp} {A : AS} : ∀ {ds : List (Key × D)} {vs : List (Key × V)}, RepK K aS H A ds vs → vs.length = ds.length
  | [], vs, h => by rw [RepK] at h; rw [h]; rfl
  | (k, d) :: ds, vs, h => by
    rw [RepK] at h
    obtain ⟨v, vr, e, _, q⟩ := h
    rw [e, List.length_cons, List.length_cons, RepK.len q]
def rDic (K : PySem.W.Frag) (f : Bool → Bool) : R2 := fun x y H Q => ∃ (aS : Addr) (A : AS) (a b : Addr) (kvs more : List (Key × D)) (ks ls : List (Key × V)), x = .ref a ∧ y = .ref b ∧ Rd H a (.dK ks) ∧ Rd H b (.dK ls) ∧ RepK K aS H A kvs ks ∧ RepK K aS H A more ls ∧ okK kvs = true ∧ okK more = true ∧ Q (.bl (f (kvs.length == more.length && eqK kvs more))) H
section
variable {X : Cx}
theorem op_eqDic (hu : X.A.units + 66 < cLine) : OpR X (compareOp .Eq) (rDic X.K id) := by
  intro pins s σ H x y v u Q I rx ry h
  obtain ⟨aS, A, a, b, kvs, more, ks, ls, rfl, rfl, ha, hb, r1, r2, o1, o2, q⟩ := h
  cases (show v = Value.ref a from rx)
  cases (show u = Value.ref b from ry)
  obtain ⟨_, ya, va, ra, da⟩ := (show ObjOk X.prog X.w H s.heap a (.dK ks) from ha.ok I.hok)
  obtain ⟨_, yb, vb, rb, db⟩ := (show ObjOk X.prog X.w H s.heap b (.dK ls) from hb.ok I.hok)
  refine PySem.W.rcP_dicts (knd := mixKind X.prog X.w) (r := eqK kvs more) ya yb da db (by omega) (fun _ => hits_data I (B := X.A.in1) (by show X.A.units + 1 + 64 < cLine; omega) o2 r2 rb kvs ks va o1 r1 ra) _ _ ?_
  rw [← ra.length, ← rb.length, r1.len, r2.len]
  exact ⟨.bl _, H, I, rfl, q⟩
end
end DL
namespace DL
open PySem PySem.Spec PyProof.Rows L2 PySem.Calls PyProof.V
variable [TabC]
section
variable {prog : Program} {w : World} {K : Type} [DecidableEq K] {knd : PySem.KeyKind prog w K} {A : Around} {s : Shared}
theorem rc_ne {a b : Addr} {ka kb : List (K × Value)} {r : Bool} (ha : (a == sysModules) = false) (hb : (b == sysModules) = false) (da : s.heap.DictOf knd a ka) (db : s.heap.DictOf knd b kb) (hu : A.units < cLine)
    (hits : ka.length = kb.length → PySem.W.KeqHitsP prog w A.in1 s kb ka r) (E Q : Value → Shared → Prop) (h : Q (.bool (!(ka.length == kb.length && r))) s) : wpAny (model prog w) A (richCompare .NotEq (.ref a) (.ref b)) Q E s := by
  refine wpAny_richCompare_same_room (op := .NotEq) da.typeIs db.typeIs PySem.F.slot_dict_ne (wpAny_call_entry PySem.F.slot_dict_ne da.typeIs PySem.F.entry_dict_ne ?_ (PySem.F.args_dict_ne_2 _ _)) hu
  show wpAny _ _ (Builtin.Dict.dictSlotArgs "__ne__" ⟨[.ref a, .ref b], []⟩ >>= _) _ _ s
  refine wpAny_bind ?_; unfold Builtin.Dict.dictSlotArgs
  refine wpAny_bind (wpAny_notOrdered_dict da.typeIs (show wpAny _ _ (pure (Value.ref a, Value.ref b)) _ _ s from wpAny_pure (wpAny_bind (wpAny_isInstance (T := "dict") db.typeIs PySem.F.sub_dict_dict ?_))))
  simp only [Bool.not_true, Bool.false_eq_true, if_false]
  refine wpAny_bind (wpAny_pure (wpAny_bind (wpAny_pure (wpAny_bind (PySem.W.samePairsP ha hb da db hits (wpAny_pure ⟨_, rfl, ⟨(fun x => nomatch x), ?_⟩⟩))))))
  cases hz : (ka.length == kb.length && r) <;> rw [hz] at h <;> exact h
end
section
variable {X : Cx}
theorem op_neDic (hu : X.A.units + 66 < cLine) : OpR X (compareOp .NotEq) (rDic X.K not) := by
  intro pins s σ H x y v u Q I rx ry h
  obtain ⟨aS, A, a, b, kvs, more, ks, ls, rfl, rfl, ha, hb, r1, r2, o1, o2, q⟩ := h
  cases (show v = Value.ref a from rx)
  cases (show u = Value.ref b from ry)
  obtain ⟨_, ya, va, ra, da⟩ := (show ObjOk X.prog X.w H s.heap a (.dK ks) from ha.ok I.hok)
  obtain ⟨_, yb, vb, rb, db⟩ := (show ObjOk X.prog X.w H s.heap b (.dK ls) from hb.ok I.hok)
  refine rc_ne (knd := mixKind X.prog X.w) (r := eqK kvs more) ya yb da db (by omega) (fun _ => hits_data I (B := X.A.in1) (by show X.A.units + 1 + 64 < cLine; omega) o2 r2 rb kvs ks va o1 r1 ra) _ _ ?_
  rw [← ra.length, ← rb.length, r1.len, r2.len]
  exact ⟨.bl _, H, I, rfl, q⟩
theorem Room.u66 {k : Nat} {A : Around} (h : Room k A) : A.units + 66 < cLine := by have := h.un; omega
def dNeX (a b : D) : Option D := match a, b with
  | .dic kvs, .dic more => if (okK kvs && okK more) = true then some (.bl (!(kvs.length == more.length && eqK kvs more))) else none
  | a, b => dNe a b
theorem od_eqX (hu : X.A.units + 66 < cLine) : OpD X (compareOp .Eq) dEqX := by
  obtain ⟨r0, h0, k0⟩ := od_eq (X := X) (by omega)
  refine ⟨_, OpR.or (op_eqDic hu) h0, fun aS H A n d1 d2 d v1 v2 Q c r1 r2 e w => ?_⟩
  unfold dEqX at e
  split at e
  · split at e
    · rename_i kvs more h
      cases e
      obtain ⟨o1, o2⟩ := Bool.and_eq_true_iff.mp h
      obtain ⟨a, ks, e1, _, g1, q1⟩ := r1
      obtain ⟨b, ls, e2, _, g2, q2⟩ := r2
      exact .inl ⟨aS, A, a, b, kvs, more, ks, ls, e1, e2, g1, g2, q1, q2, o1, o2, w _ _ KpS.refl c.st rep_bl⟩
    · cases e
  · exact .inr (k0 aS H A n d1 d2 d v1 v2 Q c r1 r2 e w)
theorem od_neX (hu : X.A.units + 66 < cLine) : OpD X (compareOp .NotEq) dNeX := by
  obtain ⟨r0, h0, k0⟩ := od_ne (X := X) (by omega)
  refine ⟨_, OpR.or (op_neDic hu) h0, fun aS H A n d1 d2 d v1 v2 Q c r1 r2 e w => ?_⟩
  unfold dNeX at e
  split at e
  · split at e
    · rename_i kvs more h
      cases e
      obtain ⟨o1, o2⟩ := Bool.and_eq_true_iff.mp h
      obtain ⟨a, ks, e1, _, g1, q1⟩ := r1
      obtain ⟨b, ls, e2, _, g2, q2⟩ := r2
      exact .inl ⟨aS, A, a, b, kvs, more, ks, ls, e1, e2, g1, g2, q1, q2, o1, o2, w _ _ KpS.refl c.st rep_bl⟩
    · cases e
  · exact .inr (k0 aS H A n d1 d2 d v1 v2 Q c r1 r2 e w)
end
end DL
namespace DL
open PySem PySem.Spec PyProof.Rows L2
variable [TabC]
/-! x + y, x & y, x | y by an own method of x's class -/
section
variable {X : Cx} {CX : CXT} {C f : Addr} {fd : FuncData} {ps : List Str} {sp : Sp} {E : XK} {k : Nat} {op : Operator}
end
section
variable {X : Cx} {E : XK} {O : List Nat} {a b : Expr} {mo me : EM D} {pos : Pos} {C : Str} {ps : List Str} {k k' : Nat} {sp : FSp} {op : Operator}
end
end DL
namespace DL
open PySem PySem.Spec PyProof.Rows L2
/-! x != y by an own __eq__ alone -/
section
variable {prog : Program} {w : World} {A : Around} {E : Value → Shared → Prop} {s : Shared} {K : PySem.W.Frag} {x C L f : Addr} {b : Value} {h₀ : Heap} {m : Str → Option Value} {ox : Obj} {od : Option Obj}
end
variable [TabC]
section
variable {X : Cx} {CX : CXT} {C f : Addr} {fd : FuncData} {ps : List Str} {sp : Sp} {E : XK} {k : Nat}
end
end DL
namespace DL
open PySem PySem.Spec PyProof.Rows L2
variable [TabC]
section
variable {X : Cx} {E : XK} {O : List Nat} {a b : Expr} {mo me : EM D} {pos : Pos} {C : Str} {ps : List Str} {k k' : Nat} {sp : FSp} {op : Operator}
end
section
variable {a b o : FM D}
end
end DL
namespace DL
open PySem PySem.Spec PyProof.Rows L2
variable [TabC]
/-! ### dicts with texts and tuples as keys -/
def setM_ (k : MD.NK) (d : D) (p : D × D) : D × D := if nkey p.1 = some k then (p.1, d) else p
def putM (kvs : List (D × D)) (k : MD.NK) (kd d : D) : List (D × D) := if kvs.any (fun p => decide (nkey p.1 = some k)) = true then kvs.map (setM_ k d) else kvs ++ [(kd, d)]
section
variable {K : PySem.W.Frag} {aS : Addr} {H H' : Hp} {A : AS}
end
section
variable {X : Cx} {E : XK} {O OL : List Nat} {a b e ix : Expr} {ma mb m mk : EM D} {pos : Pos} {i : Nat}
end
/-! flat forms -/
end DL
namespace DL
open PySem PySem.Spec PyProof.Rows L2
variable [TabC]
/-! ### set(xs) of a list or tuple of texts and numbers; len of it -/
section
variable {κ : Type} [DecidableEq κ]
end
section
variable {P : Program} {w : World} {A : Around} {R : Result → Shared → Prop} {I : Addr} {fp wr : List Addr} {G : Array GenState → Array GenState → Prop} {n : Nat} {Pv : Nat → Value → Prop} {St : Nat → Shared → Prop}
end
section
variable {P : Program} {w : World} {A : Around} {E : Value → Shared → Prop} {s : Shared}
end
section
variable {X : Cx}
end
section
variable {X : Cx} {E : XK} {O : List Nat} {a : Expr} {m : EM D} {p p2 q pos : Pos}
end
end DL
namespace DL
open PySem PySem.Spec PyProof.Rows L2
open PySem.SeqAt PySem.AutoSeq1 PySem.MeetsSeq PySem.MeetsSeq2 PySem.MeetsSeq3 PySem.SeqRoads2
variable [TabC]
/-! ### x in a list of dicts -/
section
variable {prog : Program} {w : World}
theorem has_loop {l : Addr} {its : Array Value} {n : Nat} {dd : Option Addr} {sl : Array (Option Value)} {x : Value} {e : Value → Bool} : ∀ (k i : Nat), its.size - i = k → MeetsIn prog w (Builtin.«list.__contains__.loop» ⟨[.ref l, x, rawInt i], []⟩)
      (fun A R s => (s.heap.get? l = some { cls := .type "list", dict := dd, data := .seq its n, slots := sl } ∧ ∀ y, y ∈ its → EqP prog w A.in1 s y x (e y)) ∧ R (.ok (.ret (.bool ((its.toList.drop i).any e)))) s)
  | 0, i, hk => fun A R s ⟨⟨hl, he⟩, q⟩ => by
    obtain ⟨hp, g, d, tk, os⟩ := s
    wp_walk using wpAny_loadPart' hl
    have hi : its[((i : Nat) : Int).toNat]? = none := by rw [Int.toNat_natCast]; exact Array.getElem?_eq_none (by omega)
    rw [List.drop_eq_nil_of_le (by rw [Array.length_toList]; omega)] at q
    rw [hi]
    wp_walk
    exact q
  | k + 1, i, hk => fun A R s ⟨⟨hl, he⟩, q⟩ => by
    obtain ⟨hp, g, d, tk, os⟩ := s
    wp_walk using wpAny_loadPart' hl
    have lt : i < its.size := by omega
    have hi : its[((i : Nat) : Int).toNat]? = some its[i] := by rw [Int.toNat_natCast]; exact Array.getElem?_eq_getElem lt
    rw [List.drop_eq_getElem_cons (by rw [Array.length_toList]; exact lt), List.any_cons, Array.getElem_toList] at q
    rw [hi]
    refine wpAny_bind (he _ (Array.getElem_mem lt) _ _ ?_)
    cases hb : e its[i] with
    | true =>
      rw [hb] at q
      wp_walk
      exact q
    | false =>
      rw [hb, Bool.false_or] at q
      wp_walk
      rw [show ((i : Int) + 1) = ((i + 1 : Nat) : Int) by push_cast; rfl]
      refine ⟨plainId_quiet plain_contains_loop _, codeAny_builtin entry_contains_loop ?_⟩
      rw [Around.under_plainId plain_contains_loop _]
      exact has_loop k (i + 1) (by omega) A R _ ⟨⟨hl, he⟩, q⟩
theorem has_list {l : Addr} {its : Array Value} {n : Nat} {dd : Option Addr} {sl : Array (Option Value)} {x : Value} {e : Value → Bool} : MeetsIn prog w (Builtin.«list.__contains__» ⟨[.ref l, x], []⟩)
      (fun A R s => (s.heap.get? l = some { cls := .type "list", dict := dd, data := .seq its n, slots := sl } ∧ ∀ y, y ∈ its → EqP prog w A.in1 s y x (e y)) ∧ R (.ok (.ret (.bool (its.any e)))) s) := fun A R s ⟨⟨hl, he⟩, q⟩ => by
  obtain ⟨hp, g, d, tk, os⟩ := s
  wp_walk using wpAny_loadPart' hl
  refine ⟨plainId_quiet plain_contains_loop _, codeAny_builtin entry_contains_loop ?_⟩
  rw [Around.under_plainId plain_contains_loop _]
  exact has_loop (its.size - 0) 0 rfl A R _ ⟨⟨hl, he⟩, by simpa using q⟩
end
/-- two dicts, by data -/
def eqDD (kvs more : List (Key × D)) : Bool := kvs.length == more.length && eqK kvs more
/-- .. in a list of dicts -/
def hasDD (x : List (Key × D)) (ys : List D) : Option Bool := match ys with
  | [] => some false
  | .dic kvs :: r => if okK kvs = true then (hasDD x r).map fun b => eqDD kvs x || b else none
  | _ => none
section
variable {X : Cx} {pins : List (Addr × Obj)} {σ : L2.St} {H : Hp} {s : Shared} {aS : Addr} {A : AS}
theorem same_data (I : Inv X pins σ H s) {d e : D} {v : V} (hd : okD d = true) (he : okD e = true) (r1 : Rep X.K aS H A d v) (r2 : Rep X.K aS H A e v) {x : Value} (q : RelV v x) : pyEq d e = true := by
  obtain ⟨as, z1⟩ := Dp.reads I _ _ _ (Rep.dp d v (okD_lay hd) r1) q
  obtain ⟨bs, z2⟩ := Dp.reads I _ _ _ (Rep.dp e v (okD_lay he) r2) q
  unfold pyEq
  rw [← SeqAt.Reads.unique _ _ _ _ _ (okD_lay hd) z1 z2]
  exact SeqAt.eqv_refl _ (okD_lay hd)
theorem relV_any (v : V) : ∃ x, RelV v x := by
  cases v with
  | non => exact ⟨_, rfl⟩
  | bl b => exact ⟨_, rfl⟩
  | int i => exact ⟨.int i 0, 0, rfl⟩
  | str i => exact ⟨.str i 0, 0, rfl⟩
  | byt i => exact ⟨.bytes i 0, 0, rfl⟩
  | flt i => exact ⟨.float i 0, 0, rfl⟩
  | ref a => exact ⟨_, rfl⟩
  | ty n => exact ⟨_, rfl⟩
theorem val_at : ∀ {ks : List (Key × V)}, (ks.map (·.1)).Nodup → ∀ p ∈ ks, valV ks p.1 = some p.2
  | q :: ks, hn, p, hp => by
    rw [List.map_cons, List.nodup_cons] at hn
    rcases List.mem_cons.mp hp with e | hp
    · subst e
      exact valV_pos rfl
    · rw [valV_neg fun z => hn.1 (z ▸ List.mem_map.mpr ⟨p, hp, rfl⟩)]
      exact val_at hn.2 p hp
theorem eqK_same (I : Inv X pins σ H s) {more : List (Key × D)} {ls : List (Key × V)} (om : okK more = true) (rm : RepK X.K aS H A more ls) : ∀ (kvs : List (Key × D)) (ks : List (Key × V)), okK kvs = true → RepK X.K aS H A kvs ks → (∀ p ∈ ks, valV ls p.1 = some p.2) → eqK kvs more = true
  | [], ks, _, r, _ => rfl
  | (k, d) :: kvs, ks, ok, r, hv => by
    rw [RepK] at r
    obtain ⟨v, vr, e, r1, q⟩ := r
    subst e
    obtain ⟨o1, o2⟩ := Bool.and_eq_true_iff.mp (show (okD d && okK kvs) = true from ok)
    have ih := eqK_same I om rm kvs vr o2 q fun p hp => hv p (List.mem_cons_of_mem _ hp)
    have hk : valV ls k = some v := hv (k, v) List.mem_cons_self
    show ((match lookK more k with | some d' => pyEq d d' | none => false) && eqK kvs more) = true
    rw [ih, Bool.and_true]
    rcases rm.val k with ⟨z1, z2⟩ | ⟨d', v', z1, z2, z3⟩
    · rw [hk] at z2; cases z2
    · rw [hk] at z2
      cases z2
      rw [z1]
      obtain ⟨x, hx⟩ := relV_any v
      exact same_data I o1 (look_ok om z1) r1 z3 hx
theorem rd_same {a : Addr} {ks ls : List (Key × V)} (h1 : Rd H a (.dK ks)) (h2 : Rd H a (.dK ls)) : ks = ls := by
  rcases h1 with h1 | ⟨o, h1⟩ <;> rcases h2 with h2 | ⟨o', h2⟩ <;> rw [h1] at h2 <;> cases h2 <;> rfl
theorem eqP_dicts (I : Inv X pins σ H s) {B : Around} {kvs more : List (Key × D)} {u v : V} {x y : Value} (o1 : okK kvs = true) (o2 : okK more = true) (r1 : RepB X.K aS H A (.dic kvs) u) (r2 : RepB X.K aS H A (.dic more) v) (q1 : RelV u x) (q2 : RelV v y) (hu : B.units + 65 < cLine) : EqP X.prog X.w B s x y (eqDD kvs more) := by
  obtain ⟨a, ks, rfl, _, ha, k1⟩ := repB_dic r1
  obtain ⟨b, ls, rfl, _, hb, k2⟩ := repB_dic r2
  obtain rfl : x = Value.ref a := q1
  obtain rfl : y = Value.ref b := q2
  obtain ⟨_, ya, va, ra, da⟩ := (show ObjOk X.prog X.w H s.heap a (.dK ks) from ha.ok I.hok)
  obtain ⟨_, yb, vb, rb, db⟩ := (show ObjOk X.prog X.w H s.heap b (.dK ls) from hb.ok I.hok)
  by_cases hab : a = b
  · subst hab
    have e := rd_same ha hb
    subst e
    have hn : (ks.map (·.1)).Nodup := by
      obtain ⟨_, _, _, _, _, _, _, _, hn⟩ := da
      rw [ra.keys]
      exact hn
    have z : eqDD kvs more = true := by
      unfold eqDD
      rw [eqK_same I o2 k2 kvs ks o1 k1 (val_at hn), ← k1.len, k2.len]
      simp
    rw [z]
    exact EqAt.eqP (EqAt.same _)
  · refine eqP_refs hab fun E Q q => ?_
    refine PySem.W.rcP_dicts (knd := mixKind X.prog X.w) (r := eqK kvs more) ya yb da db (by omega) (fun _ => hits_data I (B := B.in1) (by rw [Around.in1_units]; omega) o2 k2 rb kvs ks va o1 k1 ra) _ _ ?_
    rw [← ra.length, ← rb.length, k1.len, k2.len]
    exact q
end
def rInDD (K : PySem.W.Frag) (f : Bool → Bool) : R2 := fun x y H Q => ∃ (aS : Addr) (A : AS) (a : Addr) (xs : List V) (kvs : List (Key × D)) (ys : List D) (b : Bool), y = .ref a ∧ H a = some (.lst xs) ∧ RepB K aS H A (.dic kvs) x ∧ okK kvs = true ∧ RepL K aS H A ys xs ∧ A aS ∧ hasDD kvs ys = some b ∧ Q (.bl (f b)) H
section
variable {X : Cx} {pins : List (Addr × Obj)} {σ : L2.St} {H : Hp} {s : Shared} {aS : Addr} {A : AS}
/-- each one is asked -/
theorem each_asked (I : Inv X pins σ H s) {B : Around} {x : V} {u : Value} {kvs : List (Key × D)} (hA : A aS) (ox : okK kvs = true) (rx : RepB X.K aS H A (.dic kvs) x) (qx : RelV x u) (hu : B.units + 65 < cLine) : ∀ (ys : List D) (xs : List V) (its : List Value) (b : Bool), hasDD kvs ys = some b → RepL X.K aS H A ys xs → Vals xs its → ∃ bs : List Bool, bs.length = its.length ∧ bs.any id = b ∧ ∀ (i : Nat) (v : Value) (c : Bool), its[i]? = some v → bs[i]? = some c → EqP X.prog X.w B s v u c
  | [], xs, its, b, h, r, q => by
    rw [RepL] at r
    subst r
    cases q
    cases h
    exact ⟨[], rfl, rfl, fun i v c hv _ => by cases hv⟩
  | d :: ys, xs, its, b, h, r, q => by
    rw [RepL] at r
    obtain ⟨v, vr, rfl, r1, r2⟩ := r
    cases q with
    | @cons _ w _ ws q1 q2 =>
      cases d with
      | dic more =>
        unfold hasDD at h
        split at h
        · rename_i om
          obtain ⟨b', hb, rfl⟩ := Option.map_eq_some_iff.mp h
          obtain ⟨bs, e1, e2, e3⟩ := each_asked I hA ox rx qx hu ys vr ws b' hb r2 q2
          refine ⟨eqDD more kvs :: bs, by rw [List.length_cons, List.length_cons, e1], by rw [List.any_cons, e2]; rfl, fun i v' c hv hc => ?_⟩
          cases i with
          | zero =>
            cases hv
            cases hc
            exact eqP_dicts I om ox (r1.b hA) rx q1 qx hu
          | succ i => exact e3 i v' c hv hc
        · cases h
      | _ => cases h
/-- .. by the things themselves -/
theorem by_things {B : Around} {u : Value} {its : List Value} {bs : List Bool} {b : Bool} (e1 : bs.length = its.length) (e2 : bs.any id = b) (e3 : ∀ (i : Nat) (v : Value) (c : Bool), its[i]? = some v → bs[i]? = some c → EqP X.prog X.w B s v u c) : ∃ e : Value → Bool, (∀ y ∈ its, EqP X.prog X.w B s y u (e y)) ∧ its.any e = b := by
  classical
  refine ⟨fun v => decide (∃ i : Nat, its[i]? = some v ∧ bs[i]? = some true), fun y hy => ?_, ?_⟩
  · by_cases h : ∃ i : Nat, its[i]? = some y ∧ bs[i]? = some true
    · dsimp only
      rw [decide_eq_true h]
      obtain ⟨i, h1, h2⟩ := h
      exact e3 i y true h1 h2
    · dsimp only
      rw [decide_eq_false h]
      obtain ⟨i, hi⟩ := List.mem_iff_getElem?.mp hy
      have hl : i < bs.length := by rw [e1]; exact (List.getElem?_eq_some_iff.mp hi).1
      cases hb : bs[i] with
      | true => exact (h ⟨i, hi, by rw [List.getElem?_eq_getElem hl, hb]⟩).elim
      | false => exact e3 i y false hi (by rw [List.getElem?_eq_getElem hl, hb])
  · rw [← e2]
    apply Bool.eq_iff_iff.mpr
    rw [List.any_eq_true, List.any_eq_true]
    constructor
    · rintro ⟨v, _, h⟩
      obtain ⟨i, _, h2⟩ := of_decide_eq_true h
      exact ⟨true, List.mem_of_getElem? h2, rfl⟩
    · rintro ⟨c, hc, h⟩
      have h : c = true := h
      subst h
      obtain ⟨i, hi⟩ := List.mem_iff_getElem?.mp hc
      have hl : i < its.length := by rw [← e1]; exact (List.getElem?_eq_some_iff.mp hi).1
      exact ⟨its[i], List.getElem_mem hl, decide_eq_true ⟨i, List.getElem?_eq_getElem hl, hi⟩⟩
theorem op_inDD (hu : X.A.units + 66 < cLine) : OpR X (compareOp .In) (rInDD X.K id) := by
  intro pins s σ H x y v u Q I rx ry h
  obtain ⟨aS, A, a, xs, kvs, ys, b, rfl, ha, rd, ok, rl, hA, hb, q⟩ := h
  obtain rfl : u = Value.ref a := ry
  obtain ⟨_, its, n, rv, hg⟩ := (show ObjOk X.prog X.w H s.heap a (.lst xs) from I.hok a _ ha)
  obtain ⟨bs, e1, e2, e3⟩ := each_asked I (B := X.A.in1) hA ok rd rx (by rw [Around.in1_units]; omega) ys xs its b hb rl rv
  obtain ⟨e, g1, g2⟩ := by_things e1 e2 e3
  have hT : s.TypeIs (.ref a) "list" := ⟨_, hg, rfl⟩
  have e4 : its.toArray.any e = b := by rw [← g2]; simp
  refine wpAny_bind (wpAny_contains_slot hT F.slot_list_contains (wpAny_mono (call_meetsIn F.slot_list_contains hT F.entry_list_contains (F.args_list_contains_2 _ _) has_list ⟨⟨hg, fun z hz => g1 z (by simpa using hz)⟩, ?_⟩) (fun r s' (hv : r = Value.bool b ∧ s' = s) => ?_) fun _ _ e => e))
  · rw [e4]
    exact ⟨rfl, rfl⟩
  · obtain ⟨rfl, rfl⟩ := hv
    exact wpAny_truthy_bool (wpAny_pure ⟨.bl _, H, I, rfl, q⟩)
theorem op_notInDD (hu : X.A.units + 66 < cLine) : OpR X (compareOp .NotIn) (rInDD X.K not) := by
  intro pins s σ H x y v u Q I rx ry h
  obtain ⟨aS, A, a, xs, kvs, ys, b, rfl, ha, rd, ok, rl, hA, hb, q⟩ := h
  obtain rfl : u = Value.ref a := ry
  obtain ⟨_, its, n, rv, hg⟩ := (show ObjOk X.prog X.w H s.heap a (.lst xs) from I.hok a _ ha)
  obtain ⟨bs, e1, e2, e3⟩ := each_asked I (B := X.A.in1) hA ok rd rx (by rw [Around.in1_units]; omega) ys xs its b hb rl rv
  obtain ⟨e, g1, g2⟩ := by_things e1 e2 e3
  have hT : s.TypeIs (.ref a) "list" := ⟨_, hg, rfl⟩
  have e4 : its.toArray.any e = b := by rw [← g2]; simp
  refine wpAny_bind (wpAny_contains_slot hT F.slot_list_contains (wpAny_mono (call_meetsIn F.slot_list_contains hT F.entry_list_contains (F.args_list_contains_2 _ _) has_list ⟨⟨hg, fun z hz => g1 z (by simpa using hz)⟩, ?_⟩) (fun r s' (hv : r = Value.bool b ∧ s' = s) => ?_) fun _ _ e => e))
  · rw [e4]
    exact ⟨rfl, rfl⟩
  · obtain ⟨rfl, rfl⟩ := hv
    exact wpAny_truthy_bool (wpAny_pure ⟨.bl _, H, I, rfl, q⟩)
end
/-- in, with lists of dicts -/
def dInXB : D → D → Option Bool
  | .dic kvs, .lst ys => if okK kvs = true then hasDD kvs ys else none
  | x, y => dInB x y
def dInX (x y : D) : Option D := (dInXB x y).map .bl
def dNotInX (x y : D) : Option D := (dInXB x y).map fun b => .bl (!b)
section
variable {X : Cx}
theorem od_inX (hu : X.A.units + 66 < cLine) : OpD X (compareOp .In) dInX := by
  obtain ⟨r0, h0, k0⟩ := od_in (X := X) (by omega)
  refine ⟨_, OpR.or (op_inDD hu) h0, fun aS H A n d1 d2 d v1 v2 Q c r1 r2 e w => ?_⟩
  unfold dInX at e
  obtain ⟨b, hb, rfl⟩ := Option.map_eq_some_iff.mp e
  unfold dInXB at hb
  split at hb
  · split at hb
    · rename_i kvs ys ok
      obtain ⟨a, xs, rfl, _, ha, rl⟩ := repB_lst r2
      exact .inl ⟨aS, A, a, xs, kvs, ys, b, rfl, ha, r1, ok, rl, c.a, hb, w _ _ KpS.refl c.st rep_bl⟩
    · cases hb
  · exact .inr (k0 aS H A n _ _ _ v1 v2 Q c r1 r2 (by unfold dIn; rw [hb]; rfl) w)
theorem od_notInX (hu : X.A.units + 66 < cLine) : OpD X (compareOp .NotIn) dNotInX := by
  obtain ⟨r0, h0, k0⟩ := od_notIn (X := X) (by omega)
  refine ⟨_, OpR.or (op_notInDD hu) h0, fun aS H A n d1 d2 d v1 v2 Q c r1 r2 e w => ?_⟩
  unfold dNotInX at e
  obtain ⟨b, hb, rfl⟩ := Option.map_eq_some_iff.mp e
  unfold dInXB at hb
  split at hb
  · split at hb
    · rename_i kvs ys ok
      obtain ⟨a, xs, rfl, _, ha, rl⟩ := repB_lst r2
      exact .inl ⟨aS, A, a, xs, kvs, ys, b, rfl, ha, r1, ok, rl, c.a, hb, w _ _ KpS.refl c.st rep_bl⟩
    · cases hb
  · exact .inr (k0 aS H A n _ _ _ v1 v2 Q c r1 r2 (by unfold dNotIn; rw [hb]; rfl) w)
end
end DL
namespace DL
open PySem PySem.Spec PyProof.Rows L2
variable [TabC]
abbrev N_is_name : List Str := ["thing", "sign"]
def B_is_name : FS :=
  (fSeq (fIfS (fOrT (fNotT (fVal (fBlt dIsi (fCons (fVar 0) (fCons (fC (.raw (.ty "str"))) fNil))))) (fOrT (fBinT dEq (fVar 0) (fC (.str "clock"))) (fNotT (fChainT dLe dLe (fC (.int 1)) (fBlt dLen (fCons (fVar 0) fNil)) (fC (.int 8)))))) (fRet (fC (.bl false))) fNilS) (fRet (fBlt dAll (fCons (fLc (fIter (fVar 0)) [1] (fgNm 1) fYes (fBin dIn (fVar 1) (fC (.str "abcdefghijklmnopqrstuvwxyz")))) fNil))))
def f_is_name : FFn := runB N_is_name B_is_name
abbrev N_rising : List Str := ["things", "found", "thing", "one"]
def b_rising_1 : FS := (fIns 1 (fCons (fBlt dLen (fCons (fLc (fOwnL 1) ([3] ++ [1]) (fgNm 3) (fBinT dLe (fVar 3) (fVar 2)) (fVar 3)) fNil)) (fCons (fVar 2) fNil)))
def B_rising : FS :=
  (fSeq (fSetF 1 (fLst fNil)) (fSeq (fFor (fIter (fVar 0)) (fgNm 2) (b_rising_1)) (fRet (fVar 1))))
def f_rising : FFn := runB N_rising B_rising
abbrev N_is_anchor : List Str := ["thing", "names"]
def B_is_anchor : FS :=
  (fRet (fOr (fBin dEq (fVar 0) (fC (.str "clock"))) (fBin dIn (fVar 0) (fBlt dList (fCons (fVar 1) fNil)))))
def f_is_anchor : FFn := runB N_is_anchor B_is_anchor
abbrev N_way_up : List Str := ["anchors", "name", "found", "here"]
def b_way_up_1 : FS := (fSeq (fApp 2 (fVar 3)) (fSet 3 (fDget (fVar 0) (fVar 3) (fC (.str "clock")))))
def B_way_up : FS :=
  (fSeq (fSetF 2 (fLst fNil)) (fSeq (fSet 3 (fDget (fVar 0) (fVar 1) (fC (.str "clock")))) (fSeq (fWhile (fAndT (fBinT dNe (fVar 3) (fC (.str "clock"))) (fBinT dNotIn (fVar 3) (fVar 2))) (b_way_up_1)) (fRet (fVar 2)))))
def f_way_up : FFn := runB N_way_up B_way_up
abbrev N_round_from : List Str := ["anchors", "name", "found"]
def b_round_from_1 : FS := (fApp 2 (fBin dIdx (fVar 0) (fBin dIdx (fVar 2) (fNeg (fC (.int 1))))))
def B_round_from : FS :=
  (fSeq (fSetF 2 (fLst (fCons (fVar 1) fNil))) (fSeq (fWhile (fBinT dNe (fBin dIdx (fVar 0) (fBin dIdx (fVar 2) (fNeg (fC (.int 1))))) (fVar 1)) (b_round_from_1)) (fRet (fVar 2))))
def f_round_from : FFn := runB N_round_from B_round_from
abbrev N_check_rounds : List Str := ["anchors", "name"]
def b_check_rounds_1 : FS := (fIfS (fBinT dIn (fVar 1) (fCall 2 f_way_up [] (fCons (fVar 0) (fCons (fVar 1) fNil)))) (fRaise "Round" ["names"] (fCons (fCall 2 f_round_from [] (fCons (fVar 0) (fCons (fVar 1) fNil))) fNil)) fNilS)
def B_check_rounds : FS :=
  (fFor (fIter (fCall 1 f_rising [] (fCons (fBlt dList (fCons (fVar 0) fNil)) fNil))) (fgNm 1) (b_check_rounds_1))
def f_check_rounds : FFn := runB N_check_rounds B_check_rounds
abbrev N__law_with : List Str := ["_law_things", "_law_name", "_law_thing", "_law_found"]
def B__law_with : FS :=
  (fSeq (fSetF 3 (fBlt dDict (fCons (fVar 0) fNil))) (fSeq (fDput 3 (fVar 1) (fVar 2)) (fRet (fVar 3))))
def f__law_with : FFn := runB N__law_with B__law_with
end DL
namespace DL
open PySem PySem.Spec PyProof.Rows L2
variable [TabC]
/-! ### the program's data, typed -/
abbrev txs (xs : List Str) : D := .lst (xs.map .str)
inductive Mo where
  | clock | start (x : Str) | done (x : Str)
def Mo.d : Mo → D
  | .clock => .str "clock"
  | .start x => .tup [.str "start", .str x]
  | .done x => .tup [.str "done", .str x]
def Mo.ok (ks : List Str) : Mo → Prop
  | .clock => True
  | .start x => x ∈ ks
  | .done x => x ∈ ks
structure Wi where
  one : Mo
  other : Mo
  most : Int
abbrev Dis := List (Str × Int × Int)
abbrev Row := List (Str × Str × Int)
abbrev Anc := List (Str × Str)
def hangD (l : Anc) : D := .obj "Hanging" [("anchors", .dic (mapD .str l))]
abbrev keys {α : Type} (l : List (Str × α)) : List Str := l.map (·.1)
/-! names -/
def isGood (x : Str) : Bool := (match f_is_name [.str x] with | .ok (.bl b) => b | _ => false) && PyData.strOk x && !(x == "clock")
structure Good (x : Str) : Prop where
  nm : f_is_name [.str x] = .ok (.bl true)
  ok : sOk x
  nc : x ≠ "clock"
theorem good_of {x : Str} (h : isGood x = true) : Good x := by
  unfold isGood at h
  rw [Bool.and_eq_true, Bool.and_eq_true] at h
  obtain ⟨⟨h1, h2⟩, h3⟩ := h
  refine ⟨?_, h2, by simpa using h3⟩
  split at h1
  · rename_i b e
    rw [e, h1]
  · cases h1
theorem clock_ok : sOk "clock" := by decide +kernel
/-! rising -/
def strLe (y x : Str) : Bool := !decide (x.cps.toList < y.cps.toList)
def insR (found : List Str) (x : Str) : List Str := found.take (found.filter fun y => strLe y x).length ++ [x] ++ found.drop (found.filter fun y => strLe y x).length
def rise (xs : List Str) : List Str := xs.foldl insR []
theorem insR_perm (found : List Str) (x : Str) : (insR found x).Perm (found ++ [x]) := by
  unfold insR
  generalize (found.filter fun y => strLe y x).length = c
  have h : (found.take c ++ ([x] ++ found.drop c)).Perm (found.take c ++ (found.drop c ++ [x])) := List.Perm.append_left _ List.perm_append_comm
  rw [← List.append_assoc, ← List.append_assoc, List.take_append_drop] at h
  exact h
theorem rise_go : ∀ (xs acc : List Str), (xs.foldl insR acc).Perm (acc ++ xs)
  | [], acc => by rw [List.append_nil]; exact List.Perm.refl _
  | x :: xs, acc => by
    have h := (rise_go xs (insR acc x)).trans ((insR_perm acc x).append_right xs)
    rw [List.append_assoc] at h
    exact h
theorem rise_perm (xs : List Str) : (rise xs).Perm xs := rise_go xs []
theorem rise_snoc (xs : List Str) (x : Str) : rise (xs ++ [x]) = insR (rise xs) x := by
  unfold rise
  rw [List.foldl_append]
  rfl
theorem rise_len (xs : List Str) : (rise xs).length = xs.length := (rise_perm xs).length_eq
theorem ins_strs (c : Nat) (found : List Str) (x : Str) : (found.map D.str).take c ++ [.str x] ++ (found.map D.str).drop c = (found.take c ++ [x] ++ found.drop c).map .str := by
  rw [List.map_append, List.map_append, List.map_take, List.map_drop]
  rfl
theorem len_pre {α : Type} {acc post L : List α} {d : α} (e : acc ++ d :: post = L) : acc.length < L.length := by
  rw [← e, List.length_append, List.length_cons]
  omega
theorem v_rising {xs : List Str} (hl : xs.length ≤ 1000) : f_rising [txs xs] = .ok (txs (rise xs)) := by
  obtain ⟨s', e, x2, x3, rfl⟩ := for_acc (g := fgNm 2) (b := b_rising_1) D.str (fun acc s => ∃ x2 x3, s = [some (txs xs), some (txs (rise acc)), x2, x3]) xs (s := [some (txs xs), some (.lst []), none, none]) ⟨_, _, rfl⟩ (fun acc d post s e ⟨x2, x3, hs⟩ => by
    subst hs
    have hn := len_pre e
    refine ⟨_, rfl, _, insE (k := ((rise acc).filter fun y => strLe y d).length) (ds := (rise acc).map .str) rfl (consE (bltE (consE (lcE (ds := (rise acc).map .str) rfl (by rw [List.length_map, rise_len]; unfold LIM; omega) (lc_filter (g := fgNm 3) (t := fBinT dLe (fVar 3) (fVar 2)) (e := fVar 3) D.str (fun y => strLe y d) D.str (rise acc) fun y hy => ⟨_, rfl, rfl, fun _ => rfl⟩)) rfl) (by show some (D.int _) = _; rw [List.length_map])) (consE rfl rfl)) (by rw [List.length_map, rise_len]; unfold LIM; omega) (by have := List.length_filter_le (fun y => strLe y d) (rise acc); rw [rise_len] at this; unfold LIM; omega), ?_⟩
    rw [ins_strs, rise_snoc]
    exact ⟨_, _, rfl⟩)
  exact runB_rt (seqN (setFE (show 1 < 4 by decide) rfl) (seqN (forE (ds := xs.map .str) rfl e) (retE rfl)))
/-! chains -/
def upN (l : Anc) : Nat → Str → List Str
  | 0, _ => []
  | k + 1, x => match l.lookup x with
    | some a => if a = "clock" then [] else a :: upN l k a
    | none => []
/-- a hanging without rounds -/
structure Acy (l : Anc) (rk : Str → Nat) : Prop where
  nd : (keys l).Nodup
  good : ∀ x ∈ keys l, Good x
  up : ∀ x a, l.lookup x = some a → a = "clock" ∨ (a ∈ keys l ∧ rk a < rk x)
  bd : ∀ x ∈ keys l, rk x < l.length
  len : l.length ≤ 100
theorem up_more {l : Anc} {rk : Str → Nat} (A : Acy l rk) : ∀ (k : Nat) (x : Str), rk x ≤ k → upN l k x = upN l (k + 1) x
  | 0, x, h => by
    show [] = (match l.lookup x with | some a => if a = "clock" then [] else a :: upN l 0 a | none => [])
    cases e : l.lookup x with
    | none => rfl
    | some a =>
      rcases A.up x a e with z | z
      · simp only [z, if_true]
      · omega
  | k + 1, x, h => by
    rw [upN]
    conv => rhs; rw [upN]
    cases e : l.lookup x with
    | none => rfl
    | some a =>
      rcases A.up x a e with z | z
      · simp only [z, if_true]
      · simp only []
        rw [up_more A k a (by omega)]
def chain (l : Anc) (x : Str) : List Str := upN l l.length x
theorem chain_eq {l : Anc} {rk : Str → Nat} (A : Acy l rk) {x : Str} (hx : x ∈ keys l) : chain l x = match l.lookup x with
    | some a => if a = "clock" then [] else a :: chain l a
    | none => [] := by
  have h := A.bd x hx
  have e1 : chain l x = upN l (l.length + 1) x := up_more A _ x (by omega)
  rw [e1, upN]
  rfl
theorem chain_clock {l : Anc} {rk : Str → Nat} (A : Acy l rk) {x : Str} (h : l.lookup x = some "clock") : chain l x = [] := by
  rw [chain_eq A (List.mem_map.mpr ⟨_, look_some h, rfl⟩), h]
  rfl
theorem chain_up {l : Anc} {rk : Str → Nat} (A : Acy l rk) {x a : Str} (h : l.lookup x = some a) (ha : a ≠ "clock") : chain l x = a :: chain l a := by
  rw [chain_eq A (List.mem_map.mpr ⟨_, look_some h, rfl⟩), h]
  simp only [ha, if_false]
/-- induction up the chain -/
theorem Acy.ind {l : Anc} {rk : Str → Nat} (A : Acy l rk) {p : Str → Prop} (h0 : ∀ x, l.lookup x = some "clock" → p x) (h1 : ∀ x a, l.lookup x = some a → a ≠ "clock" → a ∈ keys l → rk a < rk x → p a → p x) : ∀ x ∈ keys l, p x := by
  have key : ∀ (k : Nat) (x : Str), rk x ≤ k → x ∈ keys l → p x := by
    intro k
    induction k with
    | zero =>
      intro x hk hx
      obtain ⟨a, e⟩ := look_mem hx
      rcases A.up x a e with z | z
      · subst z; exact h0 x e
      · omega
    | succ k ih =>
      intro x hk hx
      obtain ⟨a, e⟩ := look_mem hx
      by_cases z : a = "clock"
      · subst z; exact h0 x e
      · rcases A.up x a e with z' | z'
        · exact absurd z' z
        · exact h1 x a e z z'.1 z'.2 (ih a (by omega) z'.1)
  exact fun x hx => key (rk x) x (Nat.le_refl _) hx
theorem chain_rk {l : Anc} {rk : Str → Nat} (A : Acy l rk) : ∀ x ∈ keys l, ∀ y ∈ chain l x, y ∈ keys l ∧ rk y < rk x := by
  refine A.ind (fun x e y hy => ?_) (fun x a e ha hk hr ih y hy => ?_)
  · rw [chain_clock A e] at hy; cases hy
  · rw [chain_up A e ha] at hy
    rcases List.mem_cons.mp hy with z | z
    · subst z; exact ⟨hk, hr⟩
    · have := ih y z; exact ⟨this.1, by omega⟩
theorem chain_nd {l : Anc} {rk : Str → Nat} (A : Acy l rk) : ∀ x ∈ keys l, (chain l x).Nodup := by
  refine A.ind (fun x e => ?_) (fun x a e ha hk hr ih => ?_)
  · rw [chain_clock A e]; exact List.nodup_nil
  · rw [chain_up A e ha, List.nodup_cons]
    exact ⟨fun z => by have := (chain_rk A a hk a z).2; omega, ih⟩
theorem lim_of {n : Nat} (h : n ≤ 1000) : n < LIM := by unfold LIM; omega
theorem v_way_go {l : Anc} {rk : Str → Nat} (A : Acy l rk) {x0 : Option D} : ∀ (k fuel : Nat) (here : Str) (found : List Str), k ≤ fuel → (here ∈ keys l → rk here < k) → (here = "clock" ∨ here ∈ keys l) → (∀ y ∈ found, y ∈ keys l ∧ (here ≠ "clock" → rk here < rk y)) → found.length + k ≤ 500 →
    ∃ h', fWhileN (fAndT (fBinT dNe (fVar 3) (fC (.str "clock"))) (fBinT dNotIn (fVar 3) (fVar 2))) b_way_up_1 (fuel + 1) [some (.dic (mapD .str l)), x0, some (txs found), some (.str here)] = .nx [some (.dic (mapD .str l)), x0, some (txs (found ++ if here = "clock" then [] else here :: chain l here)), some (.str h')] := by
  intro k
  induction k with
  | zero =>
    intro fuel here found hf hk hh hfo hl
    have e : here = "clock" := hh.resolve_right fun z => by have := hk z; omega
    subst e
    refine ⟨"clock", ?_⟩
    rw [fWhileN, andTF (binTE (x := .str "clock") (y := .str "clock") rfl rfl (dNe_str clock_ok clock_ok))]
    rw [if_pos rfl, List.append_nil]
    rfl
  | succ k ih =>
    intro fuel here found hf hk hh hfo hl
    by_cases e : here = "clock"
    · subst e
      refine ⟨"clock", ?_⟩
      rw [fWhileN, andTF (binTE (x := .str "clock") (y := .str "clock") rfl rfl (dNe_str clock_ok clock_ok))]
      rw [if_pos rfl, List.append_nil]
      rfl
    · have hin : here ∈ keys l := hh.resolve_left e
      have hr := hk hin
      have ho : sOk here := (A.good here hin).ok
      have hni : here ∉ found := fun z => by have := (hfo here z).2 e; omega
      obtain ⟨fu, rfl⟩ : ∃ fu, fuel = fu + 1 := ⟨fuel - 1, by omega⟩
      have t1 : fAndT (fBinT dNe (fVar 3) (fC (.str "clock"))) (fBinT dNotIn (fVar 3) (fVar 2)) [some (.dic (mapD .str l)), x0, some (txs found), some (.str here)] = .ok true := by
        refine andTT (binTE (x := .str here) (y := .str "clock") rfl rfl ?_) (binTE (x := .str here) (y := txs found) rfl rfl ?_)
        · rw [dNe_str ho clock_ok]; simp [e]
        · rw [dNotIn_strs ho fun y hy => (A.good y (hfo y hy).1).ok]; simp [hni]
      obtain ⟨a, ea⟩ := look_mem hin
      have b1 : b_way_up_1 [some (.dic (mapD .str l)), x0, some (txs found), some (.str here)] = .nx [some (.dic (mapD .str l)), x0, some (txs (found ++ [here])), some (.str a)] := by
        refine seqN (appE (ds := found.map .str) rfl rfl (by rw [List.length_map]; exact lim_of (by omega))) ((setE (dgetE rfl rfl rfl rfl)).trans ?_)
        rw [lookK_map, ea, show txs (found ++ [here]) = D.lst (found.map .str ++ [.str here]) by rw [txs, List.map_append]; rfl]
        rfl
      have ha := A.up here a ea
      obtain ⟨h', eh⟩ := ih fu a (found ++ [here]) (by omega) (fun z => by
        rcases ha with y | y
        · subst y; exact absurd rfl (A.good _ z).nc
        · omega) (ha.imp id (·.1)) (fun y hy => by
          rcases List.mem_append.mp hy with z | z
          · refine ⟨(hfo y z).1, fun na => ?_⟩
            have := (hfo y z).2 e
            have := (ha.resolve_left na).2
            omega
          · have z := List.mem_singleton.mp z
            subst z
            exact ⟨hin, fun na => (ha.resolve_left na).2⟩) (by rw [List.length_append, List.length_singleton]; omega)
      refine ⟨h', ?_⟩
      rw [fWhileN, t1]
      show (match b_way_up_1 _ with | .nx s2 => fWhileN _ _ (fu + 1) s2 | .ct s2 => fWhileN _ _ (fu + 1) s2 | .bk s2 => .nx s2 | o => o) = _
      rw [b1]
      show fWhileN _ _ (fu + 1) _ = _
      rw [eh, if_neg e, List.append_assoc]
      by_cases ca : a = "clock"
      · subst ca
        rw [if_pos rfl, chain_clock A ea]
        rfl
      · rw [if_neg ca, chain_up A ea ca]
        rfl
theorem v_way_up {l : Anc} {rk : Str → Nat} (A : Acy l rk) {x : Str} (hx : x ∈ keys l) : f_way_up [.dic (mapD .str l), .str x] = .ok (txs (chain l x)) := by
  obtain ⟨a, ea⟩ := look_mem hx
  have ha := A.up x a ea
  have hl := A.len
  obtain ⟨h', e⟩ := v_way_go A (x0 := some (.str x)) (l.length) 999999 a [] (by omega) (fun z => A.bd a z) (ha.imp id (·.1)) (fun y hy => by cases hy) (by simp; omega)
  refine runB_rt (seqN (setFE (show 2 < 4 by decide) rfl) (seqN (s' := [some (.dic (mapD .str l)), some (.str x), some (txs []), some (.str a)]) ?_ (seqN (s' := _) e ((retE rfl).trans ?_))))
  · refine (setE (dgetE rfl rfl rfl rfl)).trans ?_
    rw [lookK_map, ea]
    rfl
  · show SO.rt (txs ([] ++ _)) = _
    rw [List.nil_append]
    by_cases ca : a = "clock"
    · subst ca
      rw [if_pos rfl, chain_clock A ea]
    · rw [if_neg ca, chain_up A ea ca]
end DL
namespace DL
open PySem PySem.Spec PyProof.Rows L2
variable [TabC]
/-! ### what the drawing helpers promise -/
def FSp.rel (R : List D → Nat → (D → Nat → Prop) → Prop) (mn : ∀ ds n Q Q', (∀ d n', Q d n' → Q' d n') → R ds n Q → R ds n Q') : FSp := ⟨fun ds n Q _ => R ds n Q, fun ds n Q Q' _ hq h => mn ds n Q Q' hq h⟩
def NAMES : List Str := ["a", "b", "rice", "fish", "start", "done", "wish", "zz", "station", "clocks", "abcdefgh", "meal", "go", "wait", "cloc", "on"]
def sp__law_take : FSp := sp_take (fun _ => 0)
def sp__law_one : FSp := .rel (fun ds n Q => ∃ xs, ds = [.st, .lst xs] ∧ 0 < xs.length ∧ xs.length ≤ 1000 ∧ n < 2 ^ 32 ∧ ∀ x, x ∈ xs → Q x (n + 1)) (fun _ _ _ _ hq ⟨xs, e, h1, h2, h3, q⟩ => ⟨xs, e, h1, h2, h3, fun x hx => hq _ _ (q x hx)⟩)
def sp__law_mix : FSp := .rel (fun ds n Q => ∃ xs : List D, (ds = [.st, .lst xs] ∨ ds = [.st, .tup xs]) ∧ xs.length ≤ 100 ∧ (∀ x ∈ xs, OkN 60 x) ∧ n < 2 ^ 31 ∧ ∀ ys : List D, ys.Perm xs → Q (.lst ys) (n + xs.length)) (fun _ _ _ _ hq ⟨xs, e, h1, h1b, h2, q⟩ => ⟨xs, e, h1, h1b, h2, fun ys p => hq _ _ (q ys p)⟩)
theorem perm_map {α β : Type} (f : α → β) : ∀ {ys zs : List β}, ys.Perm zs → ∀ xs : List α, zs = xs.map f → ∃ us : List α, us.Perm xs ∧ ys = us.map f := by
  intro ys zs h
  induction h with
  | nil => intro xs e; have : xs = [] := by cases xs <;> simp at e ⊢
           subst this; exact ⟨[], List.Perm.refl _, rfl⟩
  | cons x p ih =>
    intro xs e
    cases xs with
    | nil => simp at e
    | cons a xs =>
      rw [List.map_cons, List.cons.injEq] at e
      obtain ⟨us, pu, eu⟩ := ih xs e.2
      exact ⟨a :: us, pu.cons a, by rw [List.map_cons, eu, e.1]⟩
  | swap x y l =>
    intro xs e
    match xs, e with
    | a :: b :: xs, e =>
      simp only [List.map_cons, List.cons.injEq] at e
      refine ⟨b :: a :: xs, List.Perm.swap _ _ _, ?_⟩
      simp only [List.map_cons]
      rw [e.1, e.2.1, e.2.2]
  | trans p1 p2 ih1 ih2 =>
    intro xs e
    obtain ⟨us, pu, eu⟩ := ih2 xs e
    obtain ⟨vs, pv, ev⟩ := ih1 us eu
    exact ⟨vs, pv.trans pu, ev⟩
/-- .. of names -/
theorem mix_strs {n : Nat} {xs : List Str} {Q : D → Nat → Prop} {xq : XQ} (h1 : xs.length ≤ 100) (h2 : ∀ x ∈ xs, sOk x) (h3 : n < 2 ^ 31) (q : ∀ ys : List Str, ys.Perm xs → Q (txs ys) (n + xs.length)) : sp__law_mix.run [.st, txs xs] n Q xq := by
  refine ⟨xs.map .str, .inl rfl, by rw [List.length_map]; exact h1, fun d hd => ?_, h3, fun ys hp => ?_⟩
  · obtain ⟨x, hx, rfl⟩ := List.mem_map.mp hd
    exact .str (h2 x hx)
  · obtain ⟨us, pu, rfl⟩ := perm_map D.str hp xs rfl
    rw [List.length_map]
    exact q us pu
def sp__law_names : FSp := .rel (fun ds n Q => ∃ k : Nat, ds = [.st, .int (k : Int)] ∧ n < 2 ^ 31 ∧ ∀ ys : List Str, ys.Perm NAMES → Q (txs (ys.take k)) (n + 16)) (fun _ _ _ _ hq ⟨k, e, h2, q⟩ => ⟨k, e, h2, fun ys p => hq _ _ (q ys p)⟩)
end DL
namespace DL
open PySem PySem.Spec PyProof.Rows L2
variable [TabC]
abbrev N__law_one : List Str := ["_law_state", "_law_things"]
def B__law_one : SM :=
  (sRet (eBin dIdx (up (fVar 1)) (eCall 2 sp__law_take [] (up (fCons (fVar 0) (fCons (fBlt dLen (fCons (fVar 1) fNil)) fNil))))))
abbrev N__law_mix : List Str := ["_law_state", "_law_things", "_law_left", "_law_found"]
def B__law_mix : SM :=
  (sSeq (upS (fParFF 2 3 (fBlt dList (fCons (fVar 1) fNil)) (fLst fNil))) (sSeq (sWhile (up (fBinT dNe (fVar 2) (fLst fNil))) (sAppPop 3 2 (eCall 2 sp__law_take [] (up (fCons (fVar 0) (fCons (fBlt dLen (fCons (fVar 2) fNil)) fNil)))))) (upS (fRet (fVar 3)))))
abbrev N__law_names : List Str := ["_law_state", "_law_many", "_law_some"]
def B__law_names : SM :=
  (sSeq (upS (fSet 2 (fLst (fCons (fC (.str "a")) (fCons (fC (.str "b")) (fCons (fC (.str "rice")) (fCons (fC (.str "fish")) (fCons (fC (.str "start")) (fCons (fC (.str "done")) (fCons (fC (.str "wish")) (fCons (fC (.str "zz")) fNil))))))))))) (sRet (eSl (eCall 2 sp__law_mix [] (up (fCons (fVar 0) (fCons (fBin dAdd (fVar 2) (fLst (fCons (fC (.str "station")) (fCons (fC (.str "clocks")) (fCons (fC (.str "abcdefgh")) (fCons (fC (.str "meal")) (fCons (fC (.str "go")) (fCons (fC (.str "wait")) (fCons (fC (.str "cloc")) (fCons (fC (.str "on")) fNil)))))))))) fNil)))) (up fNone) (up (fSome (fVar 1))))))
end DL
namespace DL
open PySem PySem.Spec PyProof.Rows L2
variable [TabC]
end DL
namespace DL
open PySem PySem.Spec PyProof.Rows L2
variable [TabC]
abbrev N_Hanging___init__ : List Str := ["self", "rows", "name", "anchor"]
def b_Hanging___init___1 : FS := (fIfS (fOrT (fNotT (fVal (fCall 1 f_is_name [] (fCons (fVar 2) fNil)))) (fNotT (fVal (fCall 2 f_is_anchor [] (fCons (fVar 3) (fCons (fVar 1) fNil)))))) (fRaise "BadRow" ["name"] (fCons (fVar 2) fNil)) fNilS)
def B_Hanging___init__ : FS :=
  (fSeq (fForD (fun s => (s[1]?).join) itemsD (fgTp (fgsCons (fgNm 2) (fgsCons (fgNm 3) fgsNil))) (b_Hanging___init___1)) (fSeq (fDrop (fCall 1 f_check_rounds [] (fCons (fVar 1) fNil))) (fFldS 0 "Hanging" "anchors" (fDc (fIter (fCall 1 f_rising [] (fCons (fBlt dList (fCons (fVar 1) fNil)) fNil))) [2] (fgNm 2) fYes (fVar 2) (fBin dIdx (fVar 1) (fVar 2))))))
def f_Hanging___init__ : FFn := runI "Hanging" N_Hanging___init__ B_Hanging___init__
end DL
namespace DL
open PySem PySem.Spec PyProof.Rows L2
variable [TabC]
/-! max, min of two numbers or of a list of numbers; sorted of a list of numbers -/
section
variable {X : Cx}
end
end DL
namespace DL
open PySem PySem.Spec PyProof.Rows L2
variable [TabC]
end DL
namespace DL
open PySem PySem.Spec PyProof.Rows L2
variable [TabC]
abbrev N__law_rising : List Str := ["_law_things", "_law_found", "_law_thing", "_law_x"]
def b__law_rising_1 : FS := (fIns 1 (fCons (fBlt dLen (fCons (fLc (fOwnL 1) ([3] ++ [1]) (fgNm 3) (fBinT dLe (fVar 3) (fVar 2)) (fVar 3)) fNil)) (fCons (fVar 2) fNil)))
def B__law_rising : FS :=
  (fSeq (fSetF 1 (fLst fNil)) (fSeq (fFor (fIter (fVar 0)) (fgNm 2) (b__law_rising_1)) (fRet (fVar 1))))
def f__law_rising : FFn := runB N__law_rising B__law_rising
end DL
namespace DL
open PySem PySem.Spec PyProof.Rows L2
variable [TabC]
def sp__law_some : FSp := .rel (fun ds n Q => ∃ xs : List D, ds = [.st, .lst xs] ∧ xs.length ≤ 100 ∧ n < 2 ^ 30 ∧ ∀ ys : List D, ys.Sublist xs → Q (.lst ys) (n + xs.length)) (fun _ _ _ _ hq ⟨xs, e, h1, h2, q⟩ => ⟨xs, e, h1, h2, fun ys p => hq _ _ (q ys p)⟩)
end DL
namespace DL
open PySem PySem.Spec PyProof.Rows L2
variable [TabC]
/-! ### sorted by the names -/
def get {α : Type} [Inhabited α] (l : List (Str × α)) (x : Str) : α := (l.lookup x).getD default
def sortK {α : Type} [Inhabited α] (l : List (Str × α)) : List (Str × α) := (rise (keys l)).map fun x => (x, get l x)
theorem look_tab {α : Type} {f : Str → α} {y : Str} : ∀ xs : List Str, (xs.map fun x => (x, f x)).lookup y = if y ∈ xs then some (f y) else none
  | [] => rfl
  | x :: xs => by
    rw [List.map_cons, List.lookup_cons]
    by_cases e : y = x
    · subst e
      simp
    · have e2 : (y == x) = false := by simpa using e
      rw [e2, look_tab xs]
      simp [e]
section
variable {α β : Type} [Inhabited α] [Inhabited β]
theorem get_of {l : List (Str × α)} {x : Str} {a : α} (h : l.lookup x = some a) : get l x = a := by
  unfold get
  rw [h]
  rfl
theorem look_get {l : List (Str × α)} {x : Str} (h : x ∈ keys l) : l.lookup x = some (get l x) := by
  obtain ⟨a, e⟩ := look_mem h
  rw [get_of e, e]
theorem keys_sort (l : List (Str × α)) : keys (sortK l) = rise (keys l) := by
  unfold sortK keys
  rw [List.map_map]
  show (rise _).map (fun x => x) = _
  rw [List.map_id']
theorem mem_rise {xs : List Str} {x : Str} : x ∈ rise xs ↔ x ∈ xs := (rise_perm xs).mem_iff
theorem look_sort (l : List (Str × α)) (x : Str) : (sortK l).lookup x = l.lookup x := by
  unfold sortK
  rw [look_tab]
  by_cases h : x ∈ keys l
  · rw [if_pos (mem_rise.mpr h), look_get h]
  · rw [if_neg fun z => h (mem_rise.mp z), look_none h]
theorem get_sort (l : List (Str × α)) (x : Str) : get (sortK l) x = get l x := by
  unfold get
  rw [look_sort]
theorem mem_keys {l : List (Str × α)} {x : Str} : x ∈ keys (sortK l) ↔ x ∈ keys l := by rw [keys_sort]; exact mem_rise
theorem nd_sort {l : List (Str × α)} (h : (keys l).Nodup) : (keys (sortK l)).Nodup := by
  rw [keys_sort]
  exact (rise_perm _).nodup_iff.mpr h
theorem mem_sort {l : List (Str × α)} (h : (keys l).Nodup) {p : Str × α} : p ∈ sortK l → p ∈ l := fun hp => by
  obtain ⟨x, a⟩ := p
  have := look_of (nd_sort h) hp
  rw [look_sort] at this
  exact look_some this
/-- the values turned -/
def mapV (f : α → β) (l : List (Str × α)) : List (Str × β) := l.map fun p => (p.1, f p.2)
theorem keys_mapV (f : α → β) (l : List (Str × α)) : keys (mapV f l) = keys l := by
  unfold mapV keys
  rw [List.map_map]
  rfl
end
/-! ### small answers -/
theorem v_is_anchor {α : Type} {f : α → D} {l : List (Str × α)} {a : Str} (hk : ∀ x ∈ keys l, Good x) (h : a = "clock" ∨ a ∈ keys l) : f_is_anchor [.str a, .dic (mapD f l)] = .ok (.bl true) := by
  by_cases e : a = "clock"
  · subst e
    exact runB_rt (retE (orT (binE rfl rfl (dEq_str clock_ok clock_ok))))
  · have hm := h.resolve_left e
    have ho := (hk a hm).ok
    refine runB_rt (retE (orF (binE rfl rfl ?_) (binE rfl (bltE rfl (dList_map f l)) ?_)))
    · rw [dEq_str ho clock_ok]; simp [e]
    · rw [dIn_strs ho fun x hx => (hk x hx).ok, decide_eq_true hm]
/-! ### rounds -/
theorem v_check_rounds {l : Anc} {rk : Str → Nat} (A : Acy l rk) : f_check_rounds [.dic (mapD .str l)] = .ok .non := by
  have hl := A.len
  obtain ⟨s', e, x, rfl⟩ := for_inv (g := fgNm 1) (b := b_check_rounds_1) (fun s => ∃ x, s = [some (.dic (mapD .str l)), x]) ((rise (keys l)).map .str) [some (.dic (mapD .str l)), none] ⟨_, rfl⟩ (fun d hd s ⟨x, hs⟩ => by
    subst hs
    obtain ⟨y, hy, rfl⟩ := List.mem_map.mp hd
    have hy := mem_rise.mp hy
    refine ⟨_, rfl, _, ifsF (binTE (x := .str y) rfl (callE (ds := [.dic (mapD .str l), .str y]) rfl rfl (v_way_up A hy)) ?_) rfl, _, rfl⟩
    rw [dIn_strs (A.good y hy).ok fun z hz => (A.good z (chain_rk A y hy z hz).1).ok, decide_eq_false fun z => by have := (chain_rk A y hy y z).2; omega])
  exact runB_nx (forE (ds := (rise (keys l)).map .str) (iterE (callE (ds := [txs (keys l)]) (consE (bltE rfl (dList_map _ _)) rfl) rfl (v_rising (by rw [List.length_map]; omega))) rfl) e)
/-! ### books -/
def anc (rs : Row) : Anc := mapV (·.1) rs
structure BookOk (rs : Row) (rk : Str → Nat) : Prop where
  acy : Acy (anc rs) rk
  wait : ∀ r ∈ rs, 0 ≤ r.2.2
  len : rs.length ≤ 15
theorem keys_anc (rs : Row) : keys (anc rs) = keys rs := keys_mapV _ _
theorem BookOk.nd {rs : Row} {rk : Str → Nat} (B : BookOk rs rk) : (keys rs).Nodup := by
  have := B.acy.nd
  rw [keys_anc] at this
  exact this
def addN (l : Row) : Nat → Str → Int
  | 0, _ => 0
  | k + 1, x => if (get l x).1 = "clock" then (get l x).2 else (get l x).2 + addN l k (get l x).1
def added (l : Row) (x : Str) : Int := addN l l.length x
end DL
namespace DL
open PySem PySem.Spec PyProof.Rows L2
variable [TabC]
/-! ### moments and wishes -/
/-- a row of things, as a list or a tuple -/
def rowD (tp : Bool) (ds : List D) : D := if tp then .tup ds else .lst ds
theorem row_iter {tp : Bool} {ds : List D} : dIter (rowD tp ds) = some ds := by cases tp <;> rfl
theorem enumE {a : FM D} {s : Ev} {d : D} {ds : List D} (h : a s = .ok d) (h2 : dSeq d = some ds) : fEnum a s = .ok (pairsD 0 ds) := by
  unfold fEnum
  rw [h]
  show (ofO (dSeq d)).bind _ = _
  rw [h2]
  rfl
/-! ### meals -/
/-! ### ways, what is not shared -/
def wayM (l : Anc) : Mo → List Str
  | .clock => []
  | .start x => chain l x
  | .done x => chain l x ++ [x]
def usum (f : Str → Int) (xs ys : List Str) : Int := ((xs.filter fun x => !decide (x ∈ ys)).map f).sum
def uns (bs : Dis) (l : Anc) (one other : Mo) : Int := usum (fun x => (get bs x).2) (wayM l other) (wayM l one) - usum (fun x => (get bs x).1) (wayM l one) (wayM l other)
theorem way_mem {l : Anc} {rk : Str → Nat} (A : Acy l rk) {m : Mo} (h : m.ok (keys l)) : ∀ y ∈ wayM l m, y ∈ keys l := by
  cases m with
  | clock => intro y hy; cases hy
  | start x => exact fun y hy => (chain_rk A x h y hy).1
  | done x =>
    intro y hy
    rcases List.mem_append.mp hy with z | z
    · exact (chain_rk A x h y z).1
    · rw [List.mem_singleton.mp z]; exact h
/-! ### how far moments lie apart -/
def wsum (rs : Row) : Mo → Int
  | .clock => 0
  | .start x => added rs x
  | .done x => added rs x
def Mo.dish : Mo → Str
  | .clock => "clock"
  | .start x => x
  | .done x => x
def behd (bs : Dis) (rs : Row) (one other : Mo) : Int := wsum rs other - wsum rs one + uns bs (anc rs) one other
theorem Mo.ok_anc {rs : Row} {m : Mo} (h : m.ok (keys rs)) : m.ok (keys (anc rs)) := by rw [keys_anc]; exact h
/-! ### slacks, most_behind -/
end DL
namespace DL
open PySem PySem.Spec PyProof.Rows L2
variable [TabC]
/-! the same thing, with lists and tuples as drawn -/
mutual
/-- so deep at most; no list too long; what may be asked whether it is a list -/
def lay : Nat → D → Prop
  | 0, _ => False
  | k + 1, .tup ds => ds.length ≤ 1000 ∧ layL k ds
  | k + 1, .lst ds => ds.length ≤ 1000 ∧ layL k ds
  | _ + 1, .str _ => True
  | _ + 1, .int _ => True
  | _ + 1, .non => True
  | _ + 1, .bl _ => True
  | _ + 1, .dic _ => True
  | _ + 1, _ => False
def layL : Nat → List D → Prop
  | _, [] => True
  | k, d :: ds => lay k d ∧ layL k ds
end
end DL
namespace DL
open PySem PySem.Spec PyProof.Rows L2
variable [TabC]
end DL
namespace DL
open PySem PySem.Spec PyProof.Rows L2
variable [TabC]
/-! ### what a slot owns is lent to a def that tells nothing that could be it -/
section
variable {K : PySem.W.Frag} {aS : Addr} {H : Hp} {A A' : AS} {mx : Bool}
end
section
variable {X : Cx} {E : XK} {O : List Nat} {e : Expr} {es : List Expr} {m : EM D} {ml : EM (List D)} {pos : Pos}
end
/-! flat forms -/
end DL
namespace DL
open PySem PySem.Spec PyProof.Rows L2
variable [TabC]
/-! two targets: the first one new, or one of them read by a block; l.index(x) -/
section
variable {X : Cx} {E : XK} {O OL : List Nat} {a b c e o : Expr} {ma mb mc m mo mx : EM D} {pos : Pos} {i j : Nat} {x y : Str}
/-! l.index(x) -/
end
/-! name = [.. for .. in a dict] -/
section
variable {X : Cx} {E : XK} {O OL hs ws : List Nat} {e tg iter : Expr} {ifs : List Expr} {me : EM D} {mt : EM Bool} {g : DG} {scope : Scope} {pos : Pos} {own : List (Str × Nat)} {i : Nat} {y : Str}
end
/-! a truth by cases -/
section
variable {X : Cx} {E : XK} {O : List Nat} {a b c : Expr} {mc ma mb : EM Bool} {pos : Pos}
end
section
variable {a b : FM D}
end
end DL
namespace DL
open PySem PySem.Spec PyProof.Rows L2
variable [TabC]
end DL
namespace MD
open L2 PySem PySem.Spec PyProof.Rows
/-! ### a locked mixed dict, key by key -/
section
variable {Y : Cx} {ps : List (Addr × Obj)} {τ : L2.St} {G : Hp} {t : Shared} {d : Addr} {o : Obj} {ys : List EntV}
end
end MD
namespace MD
open L2 PySem PySem.Spec PyProof.Rows
/-! ### {k: v for x in ..}, keys of all sorts: the new dict is a mixed one -/
section
variable {Y : Cx} {ps : List (Addr × Obj)} {τ : L2.St} {G G' : Hp} {t : Shared} {E : Value → Shared → Prop}
end
section
variable {X : Cx} {kx vx tg iter : Expr} {scope : Scope} {own : List (Str × Nat)} {pos : Pos} {wi : TI} {g : TG} {tk tv : TE}
end
end MD
namespace MD
open PySem PySem.Spec PyProof.Rows L2
section
variable {K : PySem.W.Frag} {H H' : Hp}
end
section
variable {X : Cx} {x v : Str} {i j : Nat} {c : Int} {scope : Scope} {pos p1 p2 p3 p4 : Pos} {jj : Option Str}
end
end MD
namespace DL
open PySem PySem.Spec PyProof.Rows L2
variable [TabC]
section
variable {X : Cx} {E : XK} {O : List Nat} {x v : Str} {i j : Nat} {c : Int} {scope : Scope} {pos p1 p2 p3 p4 : Pos} {jj}
end
end DL
namespace MD
open PySem PySem.Spec PyProof.Rows L2
section
variable {prog : Program} {w : World} {A : Around} {E : Value → Shared → Prop} {s : Shared} {d : Addr} {xs : List Ent}
end
end MD
namespace DL
open PySem PySem.Spec PyProof.Rows L2
variable [TabC]
end DL
namespace MD
open PySem PySem.Spec PyProof.Rows L2
end MD
namespace DL
open PySem PySem.Spec PyProof.Rows L2
variable [TabC]
section
variable {X : Cx} {E : XK} {O : List Nat} {k v : Expr} {mk mv : EM D} {pos : Pos}
end
end DL
namespace DL
open PySem PySem.Spec PyProof.Rows L2
variable [TabC]
/-! ### defs that hand back a pair whose second thing is new -/
section
variable {X : Cx} {E : XK} {O O' OL : List Nat} {e e1 e2 : Expr} {st : Stmt} {rest : List Stmt} {m m1 m2 : EM D} {ms mr : SM} {pos : Pos} {i j : Nat}
variable {es : List Expr} {ml : EM (List D)} {p : Pos} {x y : Str} {f : Addr} {fd : FuncData} {ps : List Str} {k k' : Nat} {sp : FSp} {dds : List D} {dvs : List V} {us : List Value}
end
section
variable {P : Program} {w : World} {K : PySem.W.Frag} {mg : Str → Option Value} {base : Heap} {x qual : Str} {params : Arguments} {body : List Stmt} {scope : Scope} {dvs : List V} {kws : List (Str × V)} {f : Addr} {fd : FuncData}
end
end DL
namespace HX
open PySem L2 He
/-! the head's facts, with static methods -/
structure SaysS (P : Program) (fa : List Fa) (fn : List DefD) (er : List ErrD) (tf : List Defn) (ex : PySem.W.Frag → Bool) (sf : List He5.DefA) (w : World) (h : Heap) (K : PySem.W.Frag) : Prop extends SaysE P fa fn er tf ex w h K where
  sok : ∀ d ∈ sf, d.ok K = true
  sfn : sf.map (fnS K) = sf.map He5.DefA.val
theorem saysS_of {P : Program} {n : Nat} {fa : List Fa} {fn : List DefD} {er : List ErrD} {tf : List Defn} {ex : PySem.W.Frag → Bool} {sf : List He5.DefA} {w : World} {h : Heap} (e : obsS P n fa fn er tf ex sf h.get? = valS fn er sf) : SaysS P fa fn er tf ex sf w h (frT h.get? (asE h.get? n)) := by
  have e1 : obsE P n fa fn er tf ex h.get? = valE fn er := congrArg (fun z : AlS => z.1) e
  have e2 := congrArg (fun z : AlS => z.2.1) e
  have e3 := congrArg (fun z : AlS => z.2.2) e
  exact { saysE_of (w := w) e1 with sok := fun d hd => List.all_eq_true.mp e2 d hd, sfn := e3 }
def hookS (P : Program) (n : Nat) (fa : List Fa) (fn : List DefD) (er : List ErrD) (tf : List Defn) (ex : PySem.W.Frag → Bool) (sf : List He5.DefA) : PySem.W.Hook where
  α := AlS
  obs := fun s => obsS P n fa fn er tf ex sf s.heap.get?
  val := fun _ => valS fn er sf
  says := fun w h => ∃ K : PySem.W.Frag, K.In h ∧ SaysS P fa fn er tf ex sf w h K
  of := fun _ _ e => ⟨_, frT_in, saysS_of e⟩
  keeps := fun _ _ _ ⟨K, hK, c⟩ k => ⟨K, PySem.W.Frag.In.keeps hK k, { c with empty := fun p hp => k _ _ (c.empty p hp) }⟩
theorem obsS_eq {P : Program} {n : Nat} {fa : List Fa} {fn : List DefD} {er : List ErrD} {tf : List Defn} {ex : PySem.W.Frag → Bool} {sf : List He5.DefA} {g : Addr → Option Obj} {s : Shared} (h : ∀ a, g a = s.heap.get? a) : obsS P n fa fn er tf ex sf g = (hookS P n fa fn er tf ex sf).obs s := by
  cases (funext h : g = s.heap.get?)
  rfl
section
variable {X : Cx} {pins : List (Addr × Obj)} {σ : L2.St} {H : Hp} {s : Shared} {C f : Addr} {m : Str} {A : Around} {E : Value → Shared → Prop}
variable {CX : CXT} {k : Nat} {fd : FuncData} {ps : List Str} {sp : Sp} {EX : XK} {ds : List Value} {dvs : List V} {o e : Expr} {es : List Expr} {pos apos : Pos} {ta : TE} {t : TA} {pl : Sem Bool}
end
end HX
namespace DL
open PySem PySem.Spec PyProof.Rows L2
variable [TabC]
/-! ### defs called with some of their arguments, static methods, d.get(k) -/
section
variable {X : Cx} {E : XK} {O : List Nat} {e o : Expr} {es : List Expr} {ml : EM (List D)} {mo : EM D} {pos p apos : Pos} {x C m : Str} {ps : List Str} {k k' : Nat} {sp : FSp} {dds : List D}
end
end DL
/-! the def that tells whether what it got raises an error of one class -/
namespace TR
open PySem PySem.Spec PyProof.Rows L2
section
variable {X : Cx}
end
end TR
namespace DL
open PySem PySem.Spec PyProof.Rows L2 LamX TR
variable [TabC]
section
variable {X : Cx} {E : XK} {O : List Nat} {x C : Str} {params : Arguments} {body : Expr} {scope : Scope} {m : EM D} {k k' : Nat} {p lpos pos : Pos} {c P : Addr}
end
/-! as plain functions -/
end DL
namespace DL
open PySem PySem.Spec PyProof.Rows L2 LamX
variable [TabC]
/-! ### defs that make lambdas: their code object is known -/
section
variable {P : Program} {w : World} {K : PySem.W.Frag} {mg : Str → Option Value} {base : Heap} {x qual : Str} {params : Arguments} {body : List Stmt} {scope : Scope} {dvs : List V} {kws : List (Str × V)} {f : Addr} {fd : FuncData}
end
section
variable {P : Program} {w : World} {K : PySem.W.Frag} {mg : Str → Option Value} {base : Heap} {x : Str} {params : Arguments} {st : Stmt} {rest : List Stmt} {scope : Scope} {f : Addr} {fd : FuncData}
end
end DL
namespace DL
open PySem PySem.Spec PyProof.Rows L2 LamX
variable [TabC]
end DL
namespace TR
open PySem PySem.Spec PyProof.Rows L2
/-! ### the clauses -/
section
variable {X : Cx} {a C : Addr} {oe : Obj} {cls : Value} {d : Option Addr} {pn : List (Addr × Obj)} {fd e f w : Str} {i j k1 k2 k3 : Nat} {q1 q2 q3 q4 q5 q6 q7 q8 : Pos}
end
/-! ### without found = None ahead -/
section
variable {X : Cx}
end
end TR
namespace DL
open PySem PySem.Spec PyProof.Rows L2 LamX
variable [TabC]
end DL
namespace DL
open PySem PySem.Spec PyProof.Rows L2 LamX
variable [TabC]
section
variable {P : Program} {w : World} {K : PySem.W.Frag} {mg : Str → Option Value} {base : Heap} {x : Str} {params : Arguments} {body : List Stmt} {scope : Scope} {dvs : List V} {kws : List (Str × V)} {f : Addr} {fd : FuncData}
end
end DL
namespace DL
open PySem PySem.Spec PyProof.Rows L2 LamX
variable [TabC]
end DL
namespace DL
open PySem PySem.Spec PyProof.Rows L2
variable [TabC]
section
variable {P : Program} {w : World} {K : PySem.W.Frag} {mg : Str → Option Value} {base : Heap} {x : Str} {params : Arguments} {body : List Stmt} {scope : Scope} {f : Addr} {fd : FuncData}
end
section
variable {X : Cx} {E : XK} {O : List Nat} {e o : Expr} {es : List Expr} {ml : EM (List D)} {mo : EM D} {pos p apos : Pos} {x C m : Str} {ps : List Str} {k k' : Nat} {sp : FSp} {dds : List D}
end
end DL
namespace DL
open PySem PySem.Spec PyProof.Rows L2
variable [TabC]
/-! d[k], y = a, b (d owned) -/
section
variable {X : Cx} {E : XK} {O OL : List Nat} {a b ix : Expr} {ma mb mk : EM D} {pos : Pos} {i j : Nat} {x y : Str}
end
end DL
namespace DL
open PySem PySem.Spec PyProof.Rows L2
variable [TabC]
/-! list(range(n)) -/
section
variable {X : Cx} {E : XK} {O OL : List Nat} {a : Expr} {m : EM D} {pos : Pos}
end
end DL
namespace DL
open PySem PySem.Spec PyProof.Rows L2
variable [TabC]
end DL
namespace DL
open PySem PySem.Spec PyProof.Rows L2
variable [TabC]
end DL
namespace DL
open PySem PySem.Spec PyProof.Rows L2
variable [TabC]
end DL
namespace DL
open PySem PySem.Spec PyProof.Rows L2
variable [TabC]
end DL
namespace DL
open PySem PySem.Spec PyProof.Rows L2
variable [TabC]
end DL
namespace DL
open PySem PySem.Spec PyProof.Rows L2
variable [TabC]
end DL
namespace DL
open PySem PySem.Spec PyProof.Rows L2
variable [TabC]
/-! ### a comprehension with two fors; the inner one over a list, a tuple or a text -/
section
variable {X : Cx} {E : XK} {O OB hid : List Nat} {tg e iter tg1 iter1 : Expr} {ifs ifs1 : List Expr} {m me m1 : EM D} {mi : EM (List D)} {mt mt1 : EM Bool} {g g1 : DG} {scope : Scope} {pos : Pos}
end
section
variable {X : Cx} {E : XK} {O OB hid hs : List Nat} {tg e iter tg1 iter1 : Expr} {ifs ifs1 : List Expr} {me m1 : EM D} {mi : EM (List D)} {mt mt1 : EM Bool} {g g1 : DG} {scope : Scope} {pos : Pos}
end
end DL
namespace DL
open PySem PySem.Spec PyProof.Rows L2
variable [TabC]
end DL
namespace DL
open PySem PySem.Spec PyProof.Rows L2
variable [TabC]
/-! ### isinstance(x, C), x an object of the own class C -/
theorem insB_ok {K : PySem.W.Frag} {C : Addr} (c : Cls K C) (h : insB K C = true) : C8.InsC K C := by
  unfold insB at h
  simp only [Bool.and_eq_true, decide_eq_true_eq] at h
  exact ⟨c, h.1, h.2.1, h.2.2.1, h.2.2.2.1, h.2.2.2.2⟩
def eIsC (C : Str) (m : EM D) : EM D := fun xq s n Q => m xq s n fun d n' => (∃ fs, d = .obj C fs) ∧ Q (.bl true) n'
section
variable {X : Cx} {E : XK} {O : List Nat} {e : Expr} {m : EM D} {pos : Pos}
theorem ve_isC {C : Str} {p p2 : Pos} (hg : Gl X "isinstance") (hm : X.mg "isinstance" = none) (hgC : Gl X C) (hmC : X.mg C = some (.ref (He.ga X.K C))) (ins : C8.InsC X.K (He.ga X.K C)) (h : VE X E O e m) (hv : bootBuiltins "isinstance" = some (.builtin "isinstance") := by rfl) (hdC : (C == ("__debug__" : Str)) = false := by decide)
    (hs : starEach [e, .Name C p2] X.env = (false, eval e X.env) :: starEach [.Name C p2] X.env := by rfl) (hpl : (backTo pos (starEach [.Name C p2] X.env)).any (·.1) = false := by rfl) : VE X E O (.Call (.Name "isinstance" p) [e, .Name C p2] [] pos) (eIsC C m) := by
  obtain ⟨mn, t, pe, f⟩ := h
  refine ⟨fun xq s n Q Q' hq h => mn _ _ _ _ _ (fun d n' ⟨h1, h2⟩ => ⟨h1, hq _ _ h2⟩) h, _, pe_callB (C8.call_isC ins) hg hm hv (pa_cons pe (pa_cons (pe_glob hgC hmC (v := .ref (He.ga X.K C)) rfl hdC) pa_nil) hs) (by decide) rfl hs hpl, fun aS A0 H0 σ H s n xq Q S L hm => ?_⟩
  refine f aS A0 H0 σ H s n xq _ S L (mn _ _ _ _ _ (fun d n' q v H' k st r => ?_) hm)
  obtain ⟨⟨fs, rfl⟩, q⟩ := q
  rw [Rep] at r
  obtain ⟨a, dx, ys, ev, na, hq, rf⟩ := r
  subst ev
  exact ⟨a, dx, ys, rfl, hq, q _ _ k st rep_bl⟩
end
def fIsC (C : Str) (a : FM D) : FM D := fun s => (a s).bind fun d => match d with
  | .obj C' _ => if C' = C then .ok (.bl true) else .bad
  | _ => .bad
theorem le_isC {C : Str} {a : FM D} : ∀ xq s n Q, up (fIsC C a) xq s n Q → eIsC C (up a) xq s n Q := fun xq s n Q h => by
  unfold eIsC up
  refine wp_mono (fun d h => ?_) (wp_bind h)
  cases d with
  | obj C' fs =>
    obtain ⟨e, h⟩ := wp_dec h
    exact ⟨⟨fs, by rw [e]⟩, h⟩
  | _ => exact h.elim
theorem isCE {C : Str} {a : FM D} {s : Ev} {fs : List (Str × D)} (h : a s = .ok (.obj C fs)) : fIsC C a s = .ok (.bl true) := by
  unfold fIsC
  rw [h]
  show (if C = C then _ else _) = _
  rw [if_pos rfl]
end DL
namespace DL
open PySem PySem.Spec PyProof.Rows L2
variable [TabC]
/-! a + b of lists, as a new list -/
section
variable {X : Cx} {E : XK} {O : List Nat} {a b : Expr} {ma mb : EM D} {pos : Pos}
end
end DL
namespace DL
open PySem PySem.Spec PyProof.Rows L2
variable [TabC]
/-! ### the same thing is the same -/
theorem bools_true {α : Type} : ∀ xs : List α, boolsD (xs.map fun _ => .bl true) = some (xs.map fun _ => true)
  | [] => rfl
  | x :: xs => by
    rw [List.map_cons]
    show (boolsD _).map _ = _
    rw [bools_true xs]
    rfl
theorem all_true {α : Type} (xs : List α) : dAll [.lst (xs.map fun _ => .bl true)] = some (.bl true) := by
  show (boolsD _).map _ = _
  rw [bools_true]
  show some (D.bl ((xs.map fun _ => true).all id)) = _
  rw [List.all_map]
  simp
end DL
namespace DL
open PySem PySem.Spec PyProof.Rows L2
variable [TabC]
/-! ### hangings -/
theorem v_hanging {l : Anc} {rk : Str → Nat} (A : Acy l rk) : f_Hanging___init__ [.dic (mapD .str l)] = .ok (hangD (sortK l)) := by
  have hl := A.len
  obtain ⟨s', e, x2, x3, rfl⟩ := for_inv (g := fgTp (fgsCons (fgNm 2) (fgsCons (fgNm 3) fgsNil))) (b := b_Hanging___init___1) (fun s => ∃ x2 x3, s = [some (.obj "Hanging" []), some (.dic (mapD .str l)), x2, x3]) (itemsD (mapD .str l)) [some (.obj "Hanging" []), some (.dic (mapD .str l)), none, none] ⟨_, _, rfl⟩ (fun d hd s ⟨x2, x3, hs⟩ => by
    subst hs
    rw [items_map] at hd
    obtain ⟨p, hp, rfl⟩ := List.mem_map.mp hd
    have hk : p.1 ∈ keys l := List.mem_map.mpr ⟨p, hp, rfl⟩
    refine ⟨_, rfl, _, ifsF (orTF (notTE (valE (callE (ds := [.str p.1]) rfl rfl (A.good _ hk).nm))) (notTE (valE (callE (ds := [.str p.2, .dic (mapD .str l)]) rfl rfl (v_is_anchor A.good ?_))))) rfl, _, _, rfl⟩
    exact (A.up p.1 p.2 (look_of A.nd hp)).imp id (·.1))
  have ed : fDc (fIter (fCall 1 f_rising [] (fCons (fBlt dList (fCons (fVar 1) fNil)) fNil))) [2] (fgNm 2) fYes (fVar 2) (fBin dIdx (fVar 1) (fVar 2)) [some (.obj "Hanging" []), some (.dic (mapD .str l)), x2, x3] = .ok (.dic (mapD .str (sortK l))) := by
    refine dcE (ds := (rise (keys l)).map .str) (iterE (callE (ds := [txs (keys l)]) (consE (bltE rfl (dList_map _ _)) rfl) rfl (v_rising (by rw [List.length_map]; omega))) rfl) (by rw [List.length_map, rise_len, List.length_map]; unfold LIM; omega) ?_
    refine dc_map D.str id (fun x => get l x) D.str (rise (keys l)) [] (by rw [List.map_nil, List.nil_append, List.map_id]; exact (rise_perm _).nodup_iff.mpr A.nd) fun d hd => ⟨_, rfl, rfl, binE rfl rfl (by rw [dIdx_map, look_get (mem_rise.mp hd)]; rfl)⟩
  exact runI_nx (seqN (forDE (kvs := mapD .str l) rfl e) (seqN (dropE (callE (ds := [.dic (mapD .str l)]) rfl rfl (v_check_rounds A))) (fldSE ed rfl (by decide)))) rfl
/-! ### unlike dishes -/
/-! ### how much later -/
end DL
namespace DL
open PySem PySem.Spec PyProof.Rows L2
variable [TabC]
/-! ### the drawing helpers keep their promises -/
theorem upE {α : Type} {f : FM α} {xq : XQ} {s : Ev} {n : Nat} {Q : α → Nat → Prop} {a : α} (h : f s = .ok a) (q : Q a n) : up f xq s n Q := by
  unfold up
  rw [h]
  exact q
theorem upSN {f : FS} {xq : XQ} {de : DE} {s s' : Ev} {n : Nat} (h : f s = .nx s') (q : de.nx s' n) : upS f xq de s n := by
  unfold upS
  rw [h]
  exact q
theorem seqU {f : FS} {r : SM} {xq : XQ} {de : DE} {s s' : Ev} {n : Nat} (h : f s = .nx s') (q : r xq de s' n) : sSeq (upS f) r xq de s n := by
  unfold sSeq upS
  rw [h]
  exact q
theorem seqM {m r : SM} {xq : XQ} {de : DE} {s : Ev} {n : Nat} (h : m xq { de with nx := fun s' n' => r xq de s' n' } s n) : sSeq m r xq de s n := h
section
variable {xq : XQ} {s : Ev} {n : Nat} {Q : D → Nat → Prop} {QL : List D → Nat → Prop} {a b : FM D} {l : FM (List D)} {m m2 : EM D} {ml : EM (List D)} {d d' : D}
theorem lstM (h : ml xq s n fun ds n1 => ds.length ≤ 1000 ∧ Q (.lst ds) n1) : eLst ml xq s n Q := h
theorem consU (h : a s = .ok d) (q : ml xq s n fun ds n' => QL (d :: ds) n') : eCons (up a) ml xq s n QL := by
  unfold eCons up
  rw [h]
  exact q
theorem consM (h : m xq s n fun d n1 => ml xq s n1 fun ds n2 => QL (d :: ds) n2) : eCons m ml xq s n QL := h
theorem nilU (q : QL [] n) : up fNil xq s n QL := q
theorem callM {len : Nat} {sp : FSp} {dds ds : List D} (h : l s = .ok ds) (hl : (ds ++ dds).length = len) (q : sp.run (ds ++ dds) n Q xq) : eCall len sp dds (up l) xq s n Q := by
  unfold eCall up
  rw [h]
  exact ⟨hl, q⟩
theorem callMM {len : Nat} {sp : FSp} {dds : List D} (q : ml xq s n fun ds n1 => (ds ++ dds).length = len ∧ sp.run (ds ++ dds) n1 Q xq) : eCall len sp dds ml xq s n Q := q
theorem setM {i : Nat} {de : DE} (h : m xq s n fun d n' => de.nx (s.set i (some d)) n') : sSet i m xq de s n := h
theorem forU {i : FM (List D)} {g : DG} {mb : SM} {de : DE} {ds : List D} (h : i s = .ok ds) (q : sForL g mb xq de ds s n) : sFor (up i) g mb xq de s n := by
  unfold sFor up
  rw [h]
  exact q
theorem retM {de : DE} (q : m xq s n de.rt) : sRet m xq de s n := q
end
theorem sfor_go {α : Type} {g : FG} {mb : SM} {xq : XQ} {de : DE} (f : α → D) (I : List α → Ev → Nat → Prop) (L : List α) (hd : ∀ s' n', I L s' n' → de.nx s' n')
    (st : ∀ acc d post s n (de' : DE), acc ++ d :: post = L → I acc s n → (∀ s2 n2, I (acc ++ [d]) s2 n2 → de'.nx s2 n2) → ∃ s1, g (f d) s = some s1 ∧ mb xq de' s1 n) : ∀ (ds acc : List α) (s : Ev) (n : Nat), acc ++ ds = L → I acc s n → sForL (upG g) mb xq de (ds.map f) s n
  | [], acc, s, n, e, h => hd s n (by rw [List.append_nil] at e; rw [← e]; exact h)
  | d :: ds, acc, s, n, e, h => by
    obtain ⟨s1, e1, w⟩ := st acc d ds s n { de with nx := fun s2 n2 => sForL (upG g) mb xq de (ds.map f) s2 n2, ct := fun s2 n2 => sForL (upG g) mb xq de (ds.map f) s2 n2, bk := de.nx } e h fun s2 n2 h2 => sfor_go f I L hd st ds (acc ++ [d]) s2 n2 (by rw [List.append_assoc]; exact e) h2
    exact ⟨s1, e1, w⟩
theorem sfor_acc {α : Type} {g : FG} {mb : SM} {xq : XQ} {de : DE} (f : α → D) (I : List α → Ev → Nat → Prop) (L : List α) {s : Ev} {n : Nat} (h0 : I [] s n) (hd : ∀ s' n', I L s' n' → de.nx s' n')
    (st : ∀ acc d post s n (de' : DE), acc ++ d :: post = L → I acc s n → (∀ s2 n2, I (acc ++ [d]) s2 n2 → de'.nx s2 n2) → ∃ s1, g (f d) s = some s1 ∧ mb xq de' s1 n) : sForL (upG g) mb xq de (L.map f) s n := sfor_go f I L hd st L [] s n rfl h0
theorem nat_of {r : Int} (h : 0 ≤ r) : ∃ j : Nat, r = j := ⟨r.toNat, by omega⟩
theorem M__law_one : Meets 2 N__law_one sp__law_one B__law_one := by
  intro ds n Q xq hl h
  obtain ⟨xs, rfl, h1, h2, h3, q⟩ := h
  refine ⟨rfl, (xs.length : Int), rfl, by omega, by omega, h3, fun r r0 r1 => ?_⟩
  obtain ⟨j, rfl⟩ := nat_of r0
  have hj : j < xs.length := by omega
  exact ⟨xs[j], by rw [dIdx_lst]; simp [hj], q _ (List.getElem_mem hj)⟩
theorem erase_perm {α : Type} : ∀ (j : Nat) (l : List α) (h : j < l.length), (l[j] :: l.eraseIdx j).Perm l
  | _, [], h => by simp at h
  | 0, x :: xs, h => List.Perm.refl _
  | j + 1, x :: xs, h => by
    have h' : j < xs.length := by simpa using h
    show (xs[j] :: x :: xs.eraseIdx j).Perm (x :: xs)
    exact (List.Perm.swap x xs[j] _).trans (List.Perm.cons x (erase_perm j xs h'))
theorem erase_len {α : Type} : ∀ (j : Nat) (l : List α), j < l.length → (l.eraseIdx j).length + 1 = l.length
  | _, [], h => by simp at h
  | 0, x :: xs, h => rfl
  | j + 1, x :: xs, h => by
    have h' : j < xs.length := by simpa using h
    show (xs.eraseIdx j).length + 1 + 1 = xs.length + 1
    rw [erase_len j xs h']
theorem pyEq_nil (xs : List D) : pyEq (.lst xs) (.lst []) = xs.isEmpty := by cases xs <;> rfl
theorem nil_ok : okD (.lst []) = true := (OkN.lst (k := 0) (xs := []) (fun _ h => nomatch h)).ok (by decide)
theorem M__law_mix : Meets 2 N__law_mix sp__law_mix B__law_mix := by
  intro ds n Q xq hl h
  obtain ⟨xs, hds, h1, hok, h2, q⟩ := h
  have first : ∀ T, ds = [.st, T] → (T = .lst xs ∨ T = .tup xs) → B__law_mix xq { nx := fun _ n' => Q .non n', rt := Q } (startD N__law_mix ds) n := by
    intro T ed hT
    subst ed
    have e0 : fBlt dList (fCons (fVar 1) fNil) (startD N__law_mix [.st, T]) = .ok (.lst xs) := by
      rcases hT with z | z <;> subst z <;> exact bltE rfl rfl
    refine upSN (parFFE (show 2 < 4 by decide) (show 3 < 4 by decide) e0 rfl) ⟨xs.length + 1, ?_⟩
    have key : ∀ (k : Nat) (left found : List D) (n : Nat), left.length = k → (found ++ left).Perm xs → n + k < 2 ^ 32 → (∀ ys : List D, ys.Perm xs → Q (.lst ys) (n + k)) →
        sWhileN (up (fBinT dNe (fVar 2) (fLst fNil))) (sAppPop 3 2 (eCall 2 sp__law_take [] (up (fCons (fVar 0) (fCons (fBlt dLen (fCons (fVar 2) fNil)) fNil))))) xq { nx := fun s' n' => upS (fRet (fVar 3)) xq { nx := fun _ n' => Q .non n', rt := Q } s' n', rt := Q } (k + 1)
          [some .st, some T, some (.lst left), some (.lst found)] n := by
      intro k
      induction k with
      | zero =>
        intro left found n hk hp hn q
        have e : left = [] := List.eq_nil_of_length_eq_zero hk
        subst e
        rw [List.append_nil] at hp
        refine upE (a := false) (binTE rfl rfl (dNe_ok nil_ok nil_ok)) ?_
        exact q found hp
      | succ k ih =>
        intro left found n hk hp hn q
        have hlen : found.length + left.length = xs.length := by rw [← List.length_append]; exact hp.length_eq
        have hle : ∀ x ∈ left, OkN 60 x := fun x hx => hok x (hp.subset (List.mem_append_right _ hx))
        have ht : dNe (.lst left) (.lst []) = some (.bl true) := by
          rw [dNe_ok ((OkN.lst hle).ok (by decide)) nil_ok, pyEq_nil]
          cases left with
          | nil => cases hk
          | cons x l => rfl
        refine upE (a := true) (binTE rfl rfl ht) ?_
        refine ⟨found, left, rfl, rfl, rfl, (left.length : Int), rfl, by omega, by omega, by omega, fun r r0 r1 => ?_⟩
        obtain ⟨j, rfl⟩ := nat_of r0
        have hj : j < left.length := by omega
        refine ⟨j, left[j], rfl, by simp [hj], by unfold LIM; omega, by unfold LIM; omega, ?_⟩
        have hp2 : (found ++ [left[j]] ++ left.eraseIdx j).Perm xs := by
          refine List.Perm.trans ?_ hp
          rw [List.append_assoc]
          exact List.Perm.append_left _ (erase_perm j left hj)
        refine ih (left.eraseIdx j) (found ++ [left[j]]) (n + 1) (by have := erase_len j left hj; omega) hp2 (by omega) (fun ys hy => ?_)
        have := q ys hy
        rw [show n + (k + 1) = n + 1 + k by omega] at this
        exact this
    exact key xs.length xs [] n rfl (List.Perm.refl _) (by omega) q
  rcases hds with z | z
  · exact first _ z (.inl rfl)
  · exact first _ z (.inr rfl)
theorem names_ok : ∀ x ∈ NAMES, isGood x = true := by decide +kernel
theorem names_good {x : Str} (h : x ∈ NAMES) : Good x := good_of (names_ok x h)
theorem cut_to (xs : List D) (k : Nat) : cutL xs none (some (k : Int)) = xs.take k := by
  unfold cutL
  rw [HT.sIx_none, HT.sIx_nat, List.drop_zero, Nat.sub_zero]
  rcases Nat.le_total k xs.length with h | h
  · rw [Nat.min_eq_left h]
  · rw [Nat.min_eq_right h, List.take_length, List.take_of_length_le h]
theorem M__law_names : Meets 2 N__law_names sp__law_names B__law_names := by
  intro ds n Q xq hl h
  obtain ⟨k, rfl, h2, q⟩ := h
  unfold B__law_names
  refine seqU (s' := [some .st, some (.int k), some (txs (NAMES.take 8))]) rfl ⟨rfl, ?_⟩
  refine mix_strs (xs := NAMES) (by decide) (fun x hx => (names_good hx).ok) h2 fun ys p => ?_
  refine ⟨_, rfl, ?_⟩
  have e : cutL (ys.map D.str) none (some (k : Int)) = (ys.take k).map .str := by rw [cut_to, List.map_take]
  rw [e]
  exact q ys p
end DL
namespace DL
open PySem PySem.Spec PyProof.Rows L2
variable [TabC]
theorem take_run {n : Nat} {k : Int} {Q : D → Nat → Prop} {xq : XQ} (h0 : 0 < k) (h1 : k < 2 ^ 32) (h2 : n < 2 ^ 32) (q : ∀ r : Int, 0 ≤ r → r < k → Q (.int r) (n + 1)) : sp__law_take.run [.st, .int k] n Q xq := ⟨k, rfl, h0, h1, h2, q⟩
theorem one_run {n : Nat} {xs : List D} {Q : D → Nat → Prop} {xq : XQ} (h0 : 0 < xs.length) (h1 : xs.length ≤ 1000) (h2 : n < 2 ^ 32) (q : ∀ x, x ∈ xs → Q x (n + 1)) : sp__law_one.run [.st, .lst xs] n Q xq := ⟨xs, rfl, h0, h1, h2, q⟩
/-! ### hangings, waits -/
theorem merge_go {α : Type} {f : α → D} : ∀ (r acc : List (Str × α)), (keys acc ++ keys r).Nodup → mergeD (mapD f acc) (mapD f r) = mapD f (acc ++ r)
  | [], acc, _ => by rw [List.append_nil]; rfl
  | (x, a) :: r, acc, hn => by
    have hx : x ∉ keys acc := fun z => (List.nodup_append.mp hn).2.2 _ z _ List.mem_cons_self rfl
    have := merge_go (f := f) r (acc ++ [(x, a)]) (by rw [keys, List.map_append, List.append_assoc]; exact hn)
    rw [List.append_assoc] at this
    rw [← put_new (f := f) hx] at this
    exact this
theorem merge_nd {α : Type} {f : α → D} {r : List (Str × α)} (hn : (keys r).Nodup) : mergeD [] (mapD f r) = mapD f r := merge_go (f := f) r [] hn
theorem pairsK_map {α : Type} {f : α → D} : ∀ r : List (Str × α), pairsK (r.map fun p => .tup [.str p.1, f p.2]) = some (mapD f r)
  | [] => rfl
  | (x, a) :: r => by
    rw [List.map_cons, pairsK, pairsK_map r]
    rfl
theorem dDict_map {α : Type} {f : α → D} {r : List (Str × α)} (hn : (keys r).Nodup) : dDict [.lst (r.map fun p => .tup [.str p.1, f p.2])] = some (.dic (mapD f r)) := by
  show (pairsK _).map _ = _
  rw [pairsK_map]
  show some (D.dic (mergeD [] (mapD f r))) = _
  rw [merge_nd hn]
end DL
namespace DL
open PySem PySem.Spec PyProof.Rows L2
variable [TabC]
end DL
namespace DL
open PySem PySem.Spec PyProof.Rows L2
variable [TabC]
theorem lcU {i : FM (List D)} {hs : List Nat} {g : DG} {t : EM Bool} {e : EM D} {xq : XQ} {s : Ev} {n : Nat} {Q : D → Nat → Prop} {ds : List D} (h : i s = .ok ds) (hl : ds.length ≤ LIM) (q : sLcL g t e (fun _ _ => False) (hideL s hs) ds n [] fun xs n2 => Q (.lst xs) n2) : eLc (up i) hs g t e xq s n Q := by
  unfold eLc up
  rw [h]
  exact ⟨hl, q⟩
/-- some of them, as drawn -/
theorem slc_some {g : FG} {mt : EM Bool} {me : EM D} {xq : XQ} {s0 : Ev} {Q : List D → Nat → Prop} (L : List D) (n0 : Nat) (hd : ∀ ys, ys.Sublist L → Q ys (n0 + L.length))
    (st : ∀ d (n : Nat) (Q' : List D → Nat → Prop) (acc : List D) (r : List D → Nat → Prop), n < n0 + L.length → r (acc ++ [d]) (n + 1) → r acc (n + 1) → ∃ s1, g d s0 = some s1 ∧ mt xq s1 n fun c n1 => if c = true then me xq s1 n1 fun x n2 => r (acc ++ [x]) n2 else r acc n1) : ∀ (ds pre acc : List D), pre ++ ds = L → acc.Sublist pre → sLcL (upG g) mt me xq s0 ds (n0 + pre.length) acc Q
  | [], pre, acc, e, h => by
    rw [List.append_nil] at e
    subst e
    exact hd acc h
  | d :: ds, pre, acc, e, h => by
    have e2 : (pre ++ [d]) ++ ds = L := by rw [List.append_assoc]; exact e
    have h1 := slc_some L n0 hd st ds (pre ++ [d]) (acc ++ [d]) e2 (h.append (List.Sublist.refl _))
    have h2 := slc_some L n0 hd st ds (pre ++ [d]) acc e2 (h.trans (List.sublist_append_left _ _))
    rw [List.length_append, List.length_singleton, ← Nat.add_assoc] at h1 h2
    have hl : pre.length < L.length := by rw [← e, List.length_append, List.length_cons]; omega
    obtain ⟨s1, e1, w⟩ := st d (n0 + pre.length) Q acc (fun xs n2 => sLcL (upG g) mt me xq s0 ds n2 xs Q) (by omega) h1 h2
    exact ⟨s1, e1, w⟩
end DL
namespace DL
open PySem PySem.Spec PyProof.Rows L2
variable [TabC]
theorem v_lrising {xs : List Str} (hl : xs.length ≤ 1000) : f__law_rising [txs xs] = .ok (txs (rise xs)) := v_rising hl
theorem v_withG {α : Type} {f : α → D} {l : List (Str × α)} {x : Str} {a : α} (h : x ∉ keys l) (hl : l.length ≤ 1000) : f__law_with [.dic (mapD f l), .str x, f a] = .ok (.dic (mapD f (l ++ [(x, a)]))) := by
  refine runB_rt (seqN (setFE (show 3 < 4 by decide) rfl) (seqN (dputE (kk := .inr x) (kvs := mapD f l) rfl rfl rfl rfl (by unfold mapD; rw [List.length_map]; exact lim_of hl)) (retE ?_)))
  rw [put_new (f := f) h]
  rfl
/-! all times -/
abbrev Tm := List (Str × Int)
/-! the minutes of moments -/
def st (rs : Row) (t : Tm) (x : Str) : Int := added rs x + ((chain (anc rs) x).map (get t)).sum
/-- the puts of one dish -/
def stepP (rs : Row) (P : List Str) (x : Str) : List Str := if ((get rs x).1 = "clock" ∨ (get rs x).1 ∈ P) ∧ x ∉ P then P ++ [x] else P
def turnP (rs : Row) (P : List Str) : List Str := (keys rs).foldl (stepP rs) P
/-- all dishes in the order in which their minutes are found -/
def found (rs : Row) : List Str := (keys rs).foldl (fun P _ => turnP rs P) []
theorem nd_len : ∀ {P L : List Str}, P.Nodup → (∀ x ∈ P, x ∈ L) → P.length ≤ L.length
  | [], _, _, _ => Nat.zero_le _
  | a :: P, L, hn, hs => by
    rw [List.nodup_cons] at hn
    have ha := hs a List.mem_cons_self
    have h1 := nd_len (P := P) (L := L.erase a) hn.2 fun x hx => (List.mem_erase_of_ne fun (e : x = a) => hn.1 (by rw [← e]; exact hx)).mpr (hs x (List.mem_cons_of_mem _ hx))
    rw [List.length_erase_of_mem ha] at h1
    have h2 : 0 < L.length := List.length_pos_of_mem ha
    rw [List.length_cons]
    omega
end DL
namespace DL
open PySem PySem.Spec PyProof.Rows L2
variable [TabC]
/-! ### the order of names -/
/-! ### meals with stations -/
end DL
namespace DL
open PySem PySem.Spec PyProof.Rows L2
variable [TabC]
/-! str(x) of a text, sorted of texts -/
end DL
namespace DL
open PySem PySem.Spec PyProof.Rows L2
variable [TabC]
/-! a list == [], whatever lies in it -/
end DL
namespace DL
open PySem PySem.Spec PyProof.Rows L2
variable [TabC]
/-! a list != [], whatever lies in it -/
end DL
namespace DL
open PySem PySem.Spec PyProof.Rows L2
variable [TabC]
abbrev N__law_is_tree : List Str := ["_law_anchors", "_law_name", "_law_here", "_law_turn"]
def b__law_is_tree_1 : FS := (fSet 2 (fIf (fBinT dNe (fVar 2) (fC (.str "clock"))) (fBin dIdx (fVar 0) (fVar 2)) (fVar 2)))
def b__law_is_tree_2 : FS := (fSeq (fSet 2 (fVar 1)) (fSeq (fForD (fun s => (s[0]?).join) keysD (fgNm 3) (b__law_is_tree_1)) (fIfS (fBinT dNe (fVar 2) (fC (.str "clock"))) (fRet (fC (.bl false))) fNilS)))
def B__law_is_tree : FS :=
  (fSeq (fForD (fun s => (s[0]?).join) keysD (fgNm 1) (b__law_is_tree_2)) (fRet (fC (.bl true))))
def f__law_is_tree : FFn := runB N__law_is_tree B__law_is_tree
abbrev N__law_trees : List Str := ["_law_names_here", "_law_looks_here", "_law_found", "_law_name", "_law_longer", "_law_anchors", "_law_on", "_law_look"]
def b__law_trees_1 : FS := (fApp 4 (fCall 3 f__law_with [] (fCons (fVar 5) (fCons (fVar 3) (fCons (fVar 6) fNil)))))
def b__law_trees_2 : FS := (fFor (fIter (fBin dAdd (fLst (fCons (fC (.str "clock")) fNil)) (fLc (fIter (fVar 1)) [7] (fgNm 7) (fBinT dIn (fVar 7) (fVar 0)) (fVar 7)))) (fgNm 6) (b__law_trees_1))
def b__law_trees_3 : FS := (fSeq (fSetF 4 (fLst fNil)) (fSeq (fFor (fIter (fVar 2)) (fgNm 5) (b__law_trees_2)) (fSet 2 (fBlt dList (fCons (fVar 4) fNil)))))
def B__law_trees : FS :=
  (fSeq (fSet 2 (fLst (fCons (fC (.dic [])) fNil))) (fSeq (fFor (fIter (fVar 0)) (fgNm 3) (b__law_trees_3)) (fRet (fLc (fIter (fVar 2)) [5] (fgNm 5) (fVal (fCall 1 f__law_is_tree [] (fCons (fVar 5) fNil))) (fVar 5)))))
def f__law_trees : FFn := runB N__law_trees B__law_trees
end DL
/-! a run that wakes no sleeping generator leaves them as they are, whatever they hold -/
namespace DL.GF
open PySem PySem.Spec PyProof.Rows GenW
open Sem (wp)
/-- what a sleeper's place holds in its stead, and the sleeper -/
abbrev Hold := Nat → Option (GenState × GenState)
def dumb : Resume → Sem PySem.Fin := fun _ => .unsupported "asleep"
structure HoldOk (P : Hold) : Prop where
  mute : ∀ i m r, P i = some (m, r) → ∃ l c p fs cl, m = .suspended dumb l c p fs cl
  seen : ∀ i m r, P i = some (m, r) → m.seen = r.seen
def swap (P : Hold) (G : Array GenState) : Array GenState := G.mapIdx fun i x => match P i with
  | some y => y.2
  | none => x
def sw (P : Hold) (s : Shared) : Shared := { s with gens := swap P s.gens }
def Held (P : Hold) (G : Array GenState) : Prop := ∀ i m r, P i = some (m, r) → G[i]? = some m
def cleanG : GenState → Prop
  | .suspended _ _ _ _ fs _ => splitAtGen fs = none
  | _ => True
def Clean (G : Array GenState) : Prop := ∀ (i : Nat) (x : GenState), G[i]? = some x → cleanG x
def cleanE : End → Prop
  | .ret _ => True
  | .susp _ _ _ _ _ _ fs => splitAtGen fs = none
section
variable {P : Hold} {G : Array GenState} {g : Nat} {x : GenState}
theorem swap_size : (swap P G).size = G.size := by unfold swap; exact Array.size_mapIdx
theorem swap_get (i : Nat) : (swap P G)[i]? = (G[i]?).map fun x => match P i with
  | some y => y.2
  | none => x := by unfold swap; exact Array.getElem?_mapIdx
theorem swap_free (h : P g = none) : (swap P G)[g]? = G[g]? := by
  rw [swap_get, h]
  cases G[g]? <;> rfl
theorem Held.lt (h : Held P G) {m r : GenState} (e : P g = some (m, r)) : g < G.size := by
  have := h g m r e
  exact (Array.getElem?_eq_some_iff.mp this).1
theorem swap_push (h : Held P G) : swap P (G.push x) = (swap P G).push x := by
  have hn : P G.size = none := by
    cases e : P G.size with
    | none => rfl
    | some y => exact absurd (h.lt e) (Nat.lt_irrefl _)
  apply Array.ext_getElem?
  intro i
  rw [swap_get, Array.getElem?_push, Array.getElem?_push, swap_size]
  by_cases hi : i = G.size
  · subst hi
    rw [if_pos rfl, if_pos rfl, hn]
    rfl
  · rw [if_neg hi, if_neg hi, swap_get]
theorem swap_set (h : P g = none) : swap P (G.setIfInBounds g x) = (swap P G).setIfInBounds g x := by
  apply Array.ext_getElem?
  intro i
  rw [swap_get, Array.getElem?_setIfInBounds, Array.getElem?_setIfInBounds, swap_size]
  by_cases hi : g = i
  · subst hi
    rw [if_pos rfl, if_pos rfl, h]
    by_cases hg : g < G.size
    · rw [if_pos hg]; rfl
    · rw [if_neg hg]; rfl
  · rw [if_neg hi, if_neg hi, swap_get]
theorem Held.set (h : Held P G) (hn : P g = none) : Held P (G.setIfInBounds g x) := fun i m r e => by
  rw [Array.getElem?_setIfInBounds_ne (fun z => by rw [← z, hn] at e; cases e)]
  exact h i m r e
theorem Held.push (h : Held P G) : Held P (G.push x) := fun i m r e => by
  rw [Array.getElem?_push, if_neg (Nat.ne_of_lt (h.lt e))]
  exact h i m r e
theorem Clean.set (h : Clean G) (hx : cleanG x) : Clean (G.setIfInBounds g x) := fun i y e => by
  rw [Array.getElem?_setIfInBounds] at e
  split at e
  · split at e
    · cases e; exact hx
    · cases e
  · exact h i y e
theorem Clean.push (h : Clean G) (hx : cleanG x) : Clean (G.push x) := fun i y e => by
  rw [Array.getElem?_push] at e
  split at e
  · cases e; exact hx
  · exact h i y e
theorem sw_set (h : P g = none) {s : Shared} : sw P (s.setGen g x) = (sw P s).setGen g x := by
  unfold sw Shared.setGen
  dsimp only
  rw [swap_set h]
theorem clean_of_end {e : End} (h : cleanE e) : cleanG e.genState := by
  cases e with
  | ret _ => exact True.intro
  | susp v a l k c p fs => exact h
end
theorem split_ret {k h g l c p kp fs} (e : splitAtGen (.ret k h g l c p kp :: fs) = none) : splitAtGen fs = none := by
  unfold splitAtGen at e
  cases z : splitAtGen fs with
  | none => rfl
  | some y => rw [z] at e; cases e
theorem split_app : ∀ {fs gs : List Frame}, splitAtGen fs = none → splitAtGen gs = none → splitAtGen (fs ++ gs) = none
  | [], _, _, h => h
  | .gen .. :: _, _, h, _ => by unfold splitAtGen at h; cases h
  | .ret k h g l c p kp :: fs, gs, h1, h2 => by
    show splitAtGen (.ret k h g l c p kp :: (fs ++ gs)) = none
    unfold splitAtGen
    rw [split_app (split_ret h1) h2]
    rfl
theorem split_one {k h g l c p kp} : splitAtGen [.ret k h g l c p kp] = none := rfl
theorem no_run {M : Model} {Γ : PySem.Ctx} {p : Pos} {w : String} {fs : List Frame} {s s' : Shared} {e : End} (h : Runs M Γ p (.unsupported w) fs s e s') : False := by
  generalize ht : (Sem.unsupported w : Sem PySem.Fin) = t at h
  induction h with
  | segRet _ _ ih _ => exact ih ht
  | segGen _ _ ih _ => exact ih ht
  | segSuspOut _ _ ih => exact ih ht
  | segSuspGen _ _ _ _ ih _ => exact ih ht
  | _ => cases ht
theorem held_none {P : Hold} (hP : HoldOk P) {G : Array GenState} (H : Held P G) {g : Nat} {x : GenState} (hg : G[g]? = some x) (hx : ∀ l c p fs cl, x ≠ .suspended dumb l c p fs cl) : P g = none := by
  cases e : P g with
  | none => rfl
  | some y =>
    obtain ⟨m, r⟩ := y
    obtain ⟨l, c, p, fs, cl, rfl⟩ := hP.mute g m r e
    have := H g _ _ e
    rw [hg] at this
    cases this
    exact (hx _ _ _ _ _ rfl).elim
theorem seen_swap {P : Hold} (hP : HoldOk P) {G : Array GenState} (H : Held P G) {g : Nat} {st : GenState} (hg : G[g]? = some st) : ∃ st', (swap P G)[g]? = some st' ∧ st'.seen = st.seen := by
  cases e : P g with
  | none => exact ⟨st, (swap_free e).trans hg, rfl⟩
  | some y =>
    obtain ⟨m, r⟩ := y
    have hm := H g m r e
    rw [hg] at hm
    cases hm
    exact ⟨r, by rw [swap_get, hg, e]; rfl, (hP.seen g _ r e).symm⟩
theorem sw_push {P : Hold} {s : Shared} {x : GenState} (h : Held P s.gens) : sw P { s with gens := s.gens.push x } = { sw P s with gens := (sw P s).gens.push x } := by
  unfold sw
  dsimp only
  rw [swap_push h]
theorem sw_size {P : Hold} {s : Shared} : (sw P s).gens.size = s.gens.size := swap_size
theorem runs_held {M : Model} {P : Hold} (hP : HoldOk P) {Γ : PySem.Ctx} {p : Pos} {t : Sem PySem.Fin} {fs : List Frame} {s s' : Shared} {e : End} (h : Runs M Γ p t fs s e s') :
    splitAtGen fs = none → Clean s.gens → Held P s.gens → (Held P s'.gens ∧ Clean s'.gens ∧ cleanE e) ∧ Runs M Γ p t fs (sw P s) e (sw P s') := by
  induction h with
  | done => exact fun _ c h => ⟨⟨h, c, True.intro⟩, .done⟩
  | raise => exact fun _ c h => ⟨⟨h, c, True.intro⟩, .raise⟩
  | again q _ ih => exact fun z c h => let ⟨a, b⟩ := ih z c h; ⟨a, .again q b⟩
  | rule _ ih => exact fun z c h => let ⟨a, b⟩ := ih z c h; ⟨a, .rule b⟩
  | «at» _ ih => exact fun z c h => let ⟨a, b⟩ := ih z c h; ⟨a, .at b⟩
  | load q _ ih => exact fun z c h => let ⟨a, b⟩ := ih z c h; ⟨a, .load q b⟩
  | update q _ ih => exact fun z c h => let ⟨a, b⟩ := ih z c h; ⟨a, .update q b⟩
  | loadIfAlive _ ih => exact fun z c h => let ⟨a, b⟩ := ih z c h; ⟨a, .loadIfAlive b⟩
  | point _ ih => exact fun z c h => let ⟨a, b⟩ := ih z c h; ⟨a, .point b⟩
  | alloc _ ih => exact fun z c h => let ⟨a, b⟩ := ih z c h; ⟨a, .alloc b⟩
  | fresh _ ih => exact fun z c h => let ⟨a, b⟩ := ih z c h; ⟨a, .fresh b⟩
  | ask _ ih => exact fun z c h => let ⟨a, b⟩ := ih z c h; ⟨a, .ask b⟩
  | choose q _ ih => exact fun z c h => let ⟨a, b⟩ := ih z c h; ⟨a, .choose q b⟩
  | os _ ih => exact fun z c h => let ⟨a, b⟩ := ih z c h; ⟨a, .os b⟩
  | handled _ ih => exact fun z c h => let ⟨a, b⟩ := ih z c h; ⟨a, .handled b⟩
  | genState hg _ ih =>
    intro z c h
    obtain ⟨a, b⟩ := ih z c h
    obtain ⟨st', e1, e2⟩ := seen_swap hP h hg
    exact ⟨a, .genState (st := st') e1 (e2 ▸ b)⟩
  | stack _ ih => exact fun z c h => let ⟨a, b⟩ := ih z c h; ⟨a, .stack b⟩
  | thread _ ih => exact fun z c h => let ⟨a, b⟩ := ih z c h; ⟨a, .thread b⟩
  | newGen _ ih =>
    intro z cl h
    obtain ⟨a, b⟩ := ih z (cl.push True.intro) h.push
    rw [sw_push h] at b
    refine ⟨a, .newGen ?_⟩
    rw [sw_size]
    exact b
  | call _ _ ih1 ih2 =>
    intro z c h
    obtain ⟨⟨a1, a2, a3⟩, b⟩ := ih1 rfl c h
    obtain ⟨a, b'⟩ := ih2 z a2 a1
    exact ⟨a, .call b b'⟩
  | callSusp _ ih =>
    intro z c h
    obtain ⟨⟨a1, a2, a3⟩, b⟩ := ih rfl c h
    exact ⟨⟨a1, a2, split_app a3 split_one⟩, .callSusp b⟩
  | yield => exact fun z c h => ⟨⟨h, c, rfl⟩, .yield⟩
  | resumeFresh hg _ hq _ ih1 ih2 =>
    intro z c h
    have hn := held_none hP h hg fun _ _ _ _ _ z => by cases z
    obtain ⟨⟨a1, a2, a3⟩, b⟩ := ih1 rfl (c.set True.intro) (h.set hn)
    obtain ⟨a, b'⟩ := ih2 z (a2.set (clean_of_end a3)) (a1.set hn)
    rw [sw_set hn] at b b'
    exact ⟨a, .resumeFresh ((swap_free hn).trans hg) b hq b'⟩
  | @resumeSuspended Γ p g r l k s k₀ l₀ c₀ p₀ fs cl e₁ s₁ e s' hg hr hq _ ih1 ih2 =>
    intro z c h
    cases e : P g with
    | some y =>
      obtain ⟨m, r'⟩ := y
      obtain ⟨l1, c1, p1, fs1, cl1, rfl⟩ := hP.mute g m r' e
      have hm := h g _ _ e
      rw [hg] at hm
      cases hm
      exact (no_run hr).elim
    | none =>
      obtain ⟨⟨a1, a2, a3⟩, b⟩ := ih1 (c g _ hg) (c.set True.intro) (h.set e)
      obtain ⟨a, b'⟩ := ih2 z (a2.set (clean_of_end a3)) (a1.set e)
      rw [sw_set e] at b b'
      exact ⟨a, .resumeSuspended ((swap_free e).trans hg) b hq b'⟩
  | resumeJustStarted hg hv _ ih =>
    intro z c h
    have hn := held_none hP h hg fun _ _ _ _ _ z => by cases z
    obtain ⟨a, b⟩ := ih z c h
    exact ⟨a, .resumeJustStarted ((swap_free hn).trans hg) hv b⟩
  | resumeThrowFresh hg _ ih =>
    intro z c h
    have hn := held_none hP h hg fun _ _ _ _ _ z => by cases z
    obtain ⟨a, b⟩ := ih z (c.set True.intro) (h.set hn)
    rw [sw_set hn] at b
    exact ⟨a, .resumeThrowFresh ((swap_free hn).trans hg) b⟩
  | resumeRunning hg _ ih =>
    intro z c h
    have hn := held_none hP h hg fun _ _ _ _ _ z => by cases z
    obtain ⟨a, b⟩ := ih z c h
    exact ⟨a, .resumeRunning ((swap_free hn).trans hg) b⟩
  | resumeFinished hg _ ih =>
    intro z c h
    have hn := held_none hP h hg fun _ _ _ _ _ z => by cases z
    obtain ⟨a, b⟩ := ih z c h
    exact ⟨a, .resumeFinished ((swap_free hn).trans hg) b⟩
  | segRet _ _ ih1 ih2 =>
    intro z c h
    obtain ⟨⟨a1, a2, a3⟩, b⟩ := ih1 rfl c h
    obtain ⟨a, b'⟩ := ih2 (split_ret z) a2 a1
    exact ⟨a, .segRet b b'⟩
  | segGen => intro z; unfold splitAtGen at z; cases z
  | segSuspOut hn _ ih =>
    intro z c h
    obtain ⟨⟨a1, a2, a3⟩, b⟩ := ih rfl c h
    exact ⟨⟨a1, a2, split_app a3 z⟩, .segSuspOut hn b⟩
  | segSuspGen hn => intro z; rw [hn] at z; cases z
end DL.GF
namespace DL.GF
open PySem PySem.Spec PyProof.Rows GenW
open Sem (wp)
theorem wakes_held {M : Model} {P : Hold} (hP : HoldOk P) {Γ : PySem.Ctx} {p : Pos} {g : Nat} {r : Resume} {s s' : Shared} {res : GenResult} (h : Wakes M Γ p g r s res s') (c : Clean s.gens) (hh : Held P s.gens) :
    (Held P s'.gens ∧ Clean s'.gens) ∧ Wakes M Γ p g r (sw P s) res (sw P s') := by
  unfold Wakes at h
  split at h
  · exact h.elim
  · next c0 hg =>
    have hn := held_none hP hh hg fun _ _ _ _ _ z => by cases z
    have hg' : (sw P s).gens[g]? = some (.fresh c0) := (swap_free hn).trans hg
    split at h
    · obtain ⟨e₁, s₁, hr, hq, er, rfl⟩ := h
      obtain ⟨⟨a1, a2, a3⟩, b⟩ := runs_held hP hr rfl (c.set True.intro) (hh.set hn)
      rw [sw_set hn] at b
      refine ⟨⟨a1.set hn, a2.set (clean_of_end a3)⟩, ?_⟩
      unfold Wakes
      rw [hg', sw_set hn]
      exact ⟨e₁, _, b, hq, er, rfl⟩
    · next v hv =>
      refine ⟨⟨h.2 ▸ hh, h.2 ▸ c⟩, ?_⟩
      unfold Wakes
      rw [hg']
      cases v with
      | none => exact (hv rfl).elim
      | _ => exact ⟨h.1, by rw [h.2]⟩
    · next x =>
      refine ⟨⟨h.2 ▸ hh.set hn, h.2 ▸ c.set True.intro⟩, ?_⟩
      unfold Wakes
      rw [hg']
      exact ⟨h.1, by rw [h.2, sw_set hn]⟩
  · next k₀ l₀ c₀ p₀ fs cl hg =>
    obtain ⟨e₁, s₁, hr, hq, er, rfl⟩ := h
    cases e : P g with
    | some y =>
      obtain ⟨m, r'⟩ := y
      obtain ⟨l1, c1, p1, fs1, cl1, rfl⟩ := hP.mute g m r' e
      have hm := hh g _ _ e
      rw [hg] at hm
      cases hm
      exact (no_run hr).elim
    | none =>
      obtain ⟨⟨a1, a2, a3⟩, b⟩ := runs_held hP hr (c g _ hg) (c.set True.intro) (hh.set e)
      rw [sw_set e] at b
      refine ⟨⟨a1.set e, a2.set (clean_of_end a3)⟩, ?_⟩
      unfold Wakes
      rw [show (sw P s).gens[g]? = _ from (swap_free e).trans hg, sw_set e]
      exact ⟨e₁, _, b, hq, er, rfl⟩
  · next hg =>
    have hn := held_none hP hh hg fun _ _ _ _ _ z => by cases z
    refine ⟨⟨h.2 ▸ hh, h.2 ▸ c⟩, ?_⟩
    unfold Wakes
    rw [show (sw P s).gens[g]? = _ from (swap_free hn).trans hg]
    exact ⟨h.1, by rw [h.2]⟩
  · next hg =>
    have hn := held_none hP hh hg fun _ _ _ _ _ z => by cases z
    refine ⟨⟨h.2 ▸ hh, h.2 ▸ c⟩, ?_⟩
    unfold Wakes
    rw [show (sw P s).gens[g]? = _ from (swap_free hn).trans hg]
    exact ⟨h.1, by rw [h.2]⟩
/-- the same under a predicate's transformer -/
def Un2 {α : Type} (P : Hold) (Q : α → Pos → Shared → Prop) : α → Pos → Shared → Prop := fun a p s' => ∃ s1, s' = sw P s1 ∧ Held P s1.gens ∧ Clean s1.gens ∧ Q a p s1
theorem wp_held {α : Type} {M : Model} {P : Hold} (hP : HoldOk P) {Γ : PySem.Ctx} (t : Sem α) : ∀ {Q : α → Pos → Shared → Prop} {E : Value → Pos → Shared → Prop} {p : Pos} {s : Shared}, Clean s.gens → Held P s.gens → wp M Γ t Q E p s →
    wp M Γ t (Un2 P Q) (Un2 P E) p (sw P s) := by
  induction t with
  | pure a => exact fun c h w => ⟨_, rfl, h, c, w⟩
  | raise e => exact fun c h w => ⟨_, rfl, h, c, w⟩
  | unsupported _ => exact fun _ _ w => w
  | finish _ => exact fun _ _ w => w
  | rule _ k ih => exact fun c h w => ih () c h w
  | «at» p' k ih => exact fun c h w => ih () c h w
  | load a _ k ih => exact fun c h w => let ⟨o, ho, w⟩ := w; ⟨o, ho, ih o c h w⟩
  | update a _ f k ih =>
    intro Q E p s c h w
    exact ⟨w.1, ih () (s := { s with heap := s.heap.update a f }) c h w.2⟩
  | loadIfAlive a k ih => exact fun c h w => ih _ c h w
  | point _ k ih => exact fun c h w => ih () c h w
  | register _ _ => exact fun _ _ w => w
  | alloc o k ih =>
    intro Q E p s c h w
    exact ih _ (s := { s with heap := s.heap.push o }) c h w
  | fresh k ih =>
    intro Q E p s c h w
    exact ih _ (s := { s with toks := s.toks + 1 }) c h w
  | ask k ih => exact fun c h w => ih _ c h w
  | choose src m k ih =>
    intro Q E p s c h w
    exact ⟨w.1, ih _ (s := { s with drawn := s.drawn.bump src }) c h w.2⟩
  | os q _ k ih =>
    intro Q E p s c h w
    exact ih _ (s := { s with os := (Os.step s.os q).1 }) c h w
  | call cd hd _ _ k ih =>
    intro Q E p s c h w
    obtain ⟨r, s', hr, w⟩ := w
    obtain ⟨⟨a1, a2, _⟩, b⟩ := runs_held hP hr rfl c h
    exact ⟨r, _, b, ih r a2 a1 w⟩
  | handled own k ih => exact fun c h w => ih _ c h w
  | genState g k ih =>
    intro Q E p s c h w
    obtain ⟨st, hs, w⟩ := w
    obtain ⟨st', e1, e2⟩ := seen_swap hP h hs
    exact ⟨st', e1, ih _ c h (e2.symm ▸ w)⟩
  | newGen cd k ih =>
    intro Q E p s c h w
    have := ih _ (s := { s with gens := s.gens.push (.fresh cd) }) (c.push True.intro) h.push w
    rw [sw_push h] at this
    show wp M Γ (k (sw P s).gens.size) _ _ p _
    rw [sw_size]
    exact this
  | resume g r _ k ih =>
    intro Q E p s c h w
    obtain ⟨res, s', hw, w⟩ := w
    obtain ⟨⟨a1, a2⟩, b⟩ := wakes_held hP hw c h
    exact ⟨res, _, b, ih res a2 a1 w⟩
  | yield _ _ _ _ => exact fun _ _ w => w
  | stack k ih => exact fun c h w => ih _ c h w
  | fork _ _ => exact fun _ _ w => w
  | thread k ih => exact fun c h w => ih _ c h w
  | await _ _ _ _ _ => exact fun _ _ w => w
/-- a sleeper that cannot be woken, at the same place -/
def plainF : Frame → Frame
  | .gen _ _ _ c p => .ret (fun _ => .unsupported "asleep") none false [] c p []
  | f => f
def muted : GenState → GenState
  | .suspended _ l c p fs cl => .suspended dumb l c p (fs.map plainF) cl
  | x => x
def asleep : GenState → Bool
  | .suspended .. => true
  | _ => false
def holdOf (G : Array GenState) : Hold := fun i => match G[i]? with
  | some x => if asleep x = true then some (muted x, x) else none
  | none => none
theorem plain_where (f : Frame) : (plainF f).where_ = f.where_ := by cases f <;> rfl
theorem plain_clean : ∀ fs : List Frame, splitAtGen (fs.map plainF) = none
  | [] => rfl
  | .gen .. :: fs => by
    show splitAtGen (.ret _ _ _ _ _ _ _ :: fs.map plainF) = none
    unfold splitAtGen
    rw [plain_clean fs]
    rfl
  | .ret .. :: fs => by
    show splitAtGen (.ret _ _ _ _ _ _ _ :: fs.map plainF) = none
    unfold splitAtGen
    rw [plain_clean fs]
    rfl
theorem muted_clean (x : GenState) : cleanG (muted x) := by
  cases x with
  | suspended k l c p fs cl => exact plain_clean fs
  | _ => exact True.intro
theorem muted_bare (x : GenState) : (muted x).bare = x.bare := by cases x <;> rfl
theorem muted_seen (x : GenState) : (muted x).seen = x.seen := by
  cases x with
  | suspended k l c p fs cl =>
    show (GenStatus.suspended, some ((c, p) :: (fs.map plainF).map Frame.where_)) = (GenStatus.suspended, some ((c, p) :: fs.map Frame.where_))
    rw [List.map_map, show Frame.where_ ∘ plainF = Frame.where_ from funext plain_where]
  | _ => rfl
theorem muted_id {x : GenState} (h : asleep x = false) : muted x = x := by
  cases x with
  | suspended k l c p fs cl => cases h
  | _ => rfl
theorem holdOf_some {G : Array GenState} {i : Nat} {m r : GenState} (h : holdOf G i = some (m, r)) : G[i]? = some r ∧ asleep r = true ∧ m = muted r := by
  unfold holdOf at h
  split at h
  · next x hx =>
    split at h
    · next ha => cases h; exact ⟨hx, ha, rfl⟩
    · cases h
  · cases h
theorem holdOf_ok (G : Array GenState) : HoldOk (holdOf G) where
  mute := fun i m r h => by
    obtain ⟨_, ha, rfl⟩ := holdOf_some h
    cases r with
    | suspended k l c p fs cl => exact ⟨l, c, p, fs.map plainF, cl, rfl⟩
    | _ => cases ha
  seen := fun i m r h => by
    obtain ⟨_, _, rfl⟩ := holdOf_some h
    exact muted_seen r
def mute (s : Shared) : Shared := { s with gens := s.gens.map muted }
theorem mute_held (s : Shared) : Held (holdOf s.gens) (mute s).gens := fun i m r h => by
  obtain ⟨hr, _, rfl⟩ := holdOf_some h
  show (s.gens.map muted)[i]? = _
  rw [Array.getElem?_map, hr]
  rfl
theorem mute_clean (s : Shared) : Clean (mute s).gens := fun i x h => by
  have h : (s.gens.map muted)[i]? = some x := h
  rw [Array.getElem?_map] at h
  cases e : s.gens[i]? with
  | none => rw [e] at h; cases h
  | some y => rw [e] at h; cases h; exact muted_clean y
theorem mute_back (s : Shared) : sw (holdOf s.gens) (mute s) = s := by
  have : swap (holdOf s.gens) (s.gens.map muted) = s.gens := by
    apply Array.ext_getElem?
    intro i
    rw [swap_get, Array.getElem?_map]
    cases e : s.gens[i]? with
    | none => rfl
    | some y =>
      show some _ = some _
      unfold holdOf
      rw [e]
      dsimp only
      cases ha : asleep y with
      | true => rfl
      | false => exact congrArg some (muted_id ha)
  unfold sw mute
  dsimp only
  rw [this]
theorem mute_bare {s : Shared} (h : AllBare s.gens) : AllBare (mute s).gens := fun y hy => by
  obtain ⟨x, hx, rfl⟩ := Array.mem_map.mp (show y ∈ s.gens.map muted from hy)
  rw [muted_bare]
  exact h x hx
/-- what stays of the sleepers whose numbers are such -/
structure Slp (p : Nat → Prop) (G G' : Array GenState) : Prop where
  keep : ∀ (i : Nat) (x : GenState), p i → G[i]? = some x → asleep x = true → G'[i]? = some x
  size : G.size ≤ G'.size
theorem Slp.refl {p : Nat → Prop} (G : Array GenState) : Slp p G G := ⟨fun _ _ _ h _ => h, Nat.le_refl _⟩
theorem Slp.trans {p : Nat → Prop} {G G' G'' : Array GenState} (a : Slp p G G') (b : Slp p G' G'') : Slp p G G'' := ⟨fun i x hp h z => b.keep i x hp (a.keep i x hp h z) z, Nat.le_trans a.size b.size⟩
theorem Slp.mono {p p' : Nat → Prop} {G G' : Array GenState} (a : Slp p G G') (h : ∀ i, p' i → p i) : Slp p' G G' := ⟨fun i x hp => a.keep i x (h i hp), a.size⟩
theorem Slp.set {p : Nat → Prop} {G G' : Array GenState} {g : Nat} {y : GenState} (a : Slp p G G') (h : ¬ p g) : Slp p G (G'.setIfInBounds g y) :=
  ⟨fun i x hp e z => by rw [Array.getElem?_setIfInBounds_ne (show g ≠ i from fun w => h (w ▸ hp))]; exact a.keep i x hp e z, by rw [Array.size_setIfInBounds]; exact a.size⟩
theorem Slp.unset {p : Nat → Prop} {G G' : Array GenState} {g : Nat} {y : GenState} (a : Slp p (G.setIfInBounds g y) G') (h : ¬ p g) : Slp p G G' :=
  ⟨fun i x hp e z => a.keep i x hp (by rw [Array.getElem?_setIfInBounds_ne (show g ≠ i from fun w => h (w ▸ hp))]; exact e) z, by have := a.size; rw [Array.size_setIfInBounds] at this; exact this⟩
theorem bare_swap {P : Hold} {G G0 : Array GenState} (hr : ∀ i m r, P i = some (m, r) → G0[i]? = some r) (h0 : AllBare G0) (h : AllBare G) : AllBare (swap P G) := fun y hy => by
  obtain ⟨i, hi⟩ := Array.mem_iff_getElem?.mp hy
  rw [swap_get] at hi
  cases e : G[i]? with
  | none => rw [e] at hi; cases hi
  | some x =>
    rw [e] at hi
    cases p : P i with
    | none =>
      rw [p] at hi
      cases hi
      exact h _ (Array.mem_iff_getElem?.mpr ⟨i, e⟩)
    | some z =>
      obtain ⟨m, r⟩ := z
      rw [p] at hi
      cases hi
      exact h0 _ (Array.mem_iff_getElem?.mpr ⟨i, hr i m r p⟩)
/-- a run that does with sleepers who cannot be woken leaves them as they are -/
def Awoke (s : Shared) (Q : Shared → Prop) : Shared → Prop := fun s' => ∃ s1 : Shared, Q s1 ∧ Held (holdOf s.gens) s1.gens ∧ Clean s1.gens ∧ s' = sw (holdOf s.gens) s1 ∧ s.gens.size ≤ s1.gens.size
theorem held_slp {s s1 : Shared} (hh : Held (holdOf s.gens) s1.gens) (hs : s.gens.size ≤ s1.gens.size) : Slp (fun _ => True) s.gens (sw (holdOf s.gens) s1).gens := by
  refine ⟨fun i x _ hx ha => ?_, ?_⟩
  · have e2 : holdOf s.gens i = some (muted x, x) := by
      unfold holdOf
      rw [hx]
      dsimp only
      rw [if_pos ha]
    show (swap (holdOf s.gens) s1.gens)[i]? = _
    rw [swap_get, hh i _ _ e2, e2]
    rfl
  · rw [sw_size]
    exact hs
theorem sw_bare {s s1 : Shared} (h0 : AllBare s.gens) (h1 : AllBare s1.gens) : AllBare (sw (holdOf s.gens) s1).gens := bare_swap (fun i m r z => (holdOf_some z).1) h0 h1
theorem Awoke.get {s s' : Shared} {Q : Shared → Prop} (h : Awoke s Q s') : ∃ s1 : Shared, Q s1 ∧ s' = { s1 with gens := s'.gens } ∧ Slp (fun _ => True) s.gens s'.gens ∧ (AllBare s.gens → AllBare s1.gens → AllBare s'.gens) := by
  obtain ⟨s1, q, hh, _, e, hs⟩ := h
  subst e
  exact ⟨s1, q, rfl, held_slp hh hs, sw_bare⟩
theorem wpAny_held {α : Type} {M : Model} {A : Around} {t : Sem α} {Q : α → Shared → Prop} {E : Value → Shared → Prop} {s : Shared} (h : wpAny M A t Q E (mute s)) : wpAny M A t (fun a => Awoke s (Q a)) (fun e => Awoke s (E e)) s := by
  intro Γ p hΓ
  have h' : wpAny M A t (fun a z => Q a z ∧ (mute s).gens.size ≤ z.gens.size) (fun a z => E a z ∧ (mute s).gens.size ≤ z.gens.size) (mute s) :=
    wpAny_gsz (Nat.le_refl _) (wpAny_mono h (fun a z q hz => ⟨q, hz⟩) fun a z q hz => ⟨q, hz⟩)
  have w := wp_held (holdOf_ok s.gens) t (mute_clean s) (mute_held s) (h' Γ p hΓ)
  rw [mute_back] at w
  have es : (mute s).gens.size = s.gens.size := Array.size_map ..
  have fin : ∀ (R : Shared → Prop) (s' s1 : Shared), s' = sw (holdOf s.gens) s1 → Held (holdOf s.gens) s1.gens → Clean s1.gens → (R s1 ∧ (mute s).gens.size ≤ s1.gens.size) → Awoke s R s' := fun R s' s1 e hh hc q => ⟨s1, q.1, hh, hc, e, es ▸ q.2⟩
  refine Sem.wp_mono (post := Un2 (holdOf s.gens) fun a _ z => Q a z ∧ (mute s).gens.size ≤ z.gens.size) (exc := Un2 (holdOf s.gens) fun a _ z => E a z ∧ (mute s).gens.size ≤ z.gens.size) _ _ _ (fun a p' s' ⟨s1, e, hh, hc, q⟩ => fin _ _ _ e hh hc q) (fun a p' s' ⟨s1, e, hh, hc, q⟩ => fin _ _ _ e hh hc q) _ _ w
end DL.GF
/-! stretches of a generator's run: what is wanted of their end may hang on what is to go on behind it -/
namespace DL.GF
open PySem PySem.Spec PyProof.Rows GenW
open Sem (wp)
abbrev EndP := End → Shared → Prop
/-- the run of t over the frames fs in the code c ends as Φ wants -/
def Sg (M : Model) (B : Around) (c : Code) (t : Sem PySem.Fin) (fs : List Frame) (s : Shared) (Φ : EndP) : Prop :=
  ∀ (Γ : PySem.Ctx) (p : Pos), Γ.code = c → Γ.Woken B → ∃ e z, Runs M Γ p t fs s e z ∧ Φ e z
section
variable {M : Model} {B : Around} {c c' : Code} {fs : List Frame} {s : Shared} {Φ Ψ : EndP} {env : Env} {K : Flow → Sem PySem.Fin} {J : Value → Sem PySem.Fin} {gd : Bool → Bool} {lv : List Value → List Value}
theorem Sg.cast {t t' : Sem PySem.Fin} (e : t = t') (x : Sg M B c t' fs s Φ) : Sg M B c t fs s Φ := e ▸ x
theorem sg_wrap {α : Type} {m : Sem α} {K : α → Sem PySem.Fin} (x : wpAny M (B.over c fs) m (fun a z => Sg M B c (K a) fs z Φ) (fun a z => Sg M B c (J a) fs z Φ) s) : Sg M B c (m.wrap K J gd lv) fs s Φ := by
  intro Γ p hc hw
  subst hc
  exact runs_wrap_of_wp K J gd lv m (x (Γ.over fs) p (hw.over fs)) (fun a p' z y => y Γ p' rfl hw) fun a p' z y => y Γ p' rfl hw
/-- a bind under what follows -/
theorem sg_bw {α β : Type} {m : Sem α} {f : α → Sem β} {K : β → Sem PySem.Fin} (x : wpAny M (B.over c fs) m (fun a z => Sg M B c ((f a).wrap K J gd lv) fs z Φ) (fun a z => Sg M B c (J a) fs z Φ) s) : Sg M B c ((m >>= f).wrap K J gd lv) fs s Φ := by
  rw [Sem.bind_eq_wrap', Sem.wrap_wrap]
  exact sg_wrap x
theorem sg_at {p' : Pos} {k : Unit → Sem PySem.Fin} (x : Sg M B c (k ()) fs s Φ) : Sg M B c (.at p' k) fs s Φ := by
  show Sg M B c ((standAt p').wrap k .raise id id) fs s Φ
  exact sg_wrap (wpAny_standAt x)
theorem sg_point {l : List Value} {k : Unit → Sem PySem.Fin} (x : Sg M B c (k ()) fs s Φ) : Sg M B c (.point l k) fs s Φ := by
  show Sg M B c (point.wrap k .raise id fun _ => l) fs s Φ
  exact sg_wrap (wpAny_point x)
theorem sg_call {h : Option Value} {g : Bool} {l : List Value} {k : Result → Sem PySem.Fin} (x : ∀ p, Sg M B c' (M.den c') (.ret k h g l c p [] :: fs) s Φ) : Sg M B c (.call c' h g l k) fs s Φ := by
  intro Γ p hc hw
  subst hc
  obtain ⟨e, z, r, q⟩ := x p (Γ.goto c') p rfl (hw.goto c')
  exact ⟨e, z, runs_call_seg r, q⟩
theorem sg_leaf {h : Option Value} {g : Bool} {l kp : List Value} {p₁ : Pos} {k : Result → Sem PySem.Fin} (r : Result) (x : Sg M B c' (k r) fs s Φ) : Sg M B c (leafOf r) (.ret k h g l c' p₁ kp :: fs) s Φ := by
  intro Γ p hc hw
  subst hc
  obtain ⟨e, z, y, q⟩ := x (Γ.goto c') p₁ rfl (hw.goto c')
  exact ⟨e, z, Runs.pop r y, q⟩
theorem sg_again (hq : c'.quiet = true) (x : Sg M B c' (M.den c') fs s Φ) : Sg M B c (.pure (.again c')) fs s Φ := by
  intro Γ p hc hw
  subst hc
  obtain ⟨e, z, y, q⟩ := x (Γ.goto c') p rfl (hw.goto c')
  exact ⟨e, z, Runs.head (c₁ := c') (fun _ _ y => .again hq y) y, q⟩
theorem sg_end (r : Result) (x : Φ (.ret r) s) : Sg M B c (leafOf r) [] s Φ := by
  intro Γ p hc _
  exact ⟨_, s, Runs.leaf r, x⟩
theorem sg_yield {v : Value} {g : Bool} {l : List Value} {k : Resume → Sem PySem.Fin} (hfs : splitAtGen fs = none) (x : ∀ p, Φ (.susp v g l k c p fs) s) : Sg M B c (.yield v g l k) fs s Φ := by
  intro Γ p hc _
  subst hc
  exact ⟨_, s, Runs.yield' fs hfs, x p⟩
/-! ### statements -/
theorem sg_nil (x : Sg M B c (K .next) fs s Φ) : Sg M B c ((execs [] env).wrap K J gd lv) fs s Φ := x
theorem sg_cons {st : Stmt} {rest : List Stmt} (x : Sg M B c ((exec st env).wrap (fun f => match f with
    | .next => (execs rest env).wrap K J gd lv
    | f => K f) J gd lv) fs s Φ) : Sg M B c ((execs (st :: rest) env).wrap K J gd lv) fs s Φ := by
  rw [execs_cons_wrap]
  exact x
theorem sg_exprYield {e : Expr} {yp pos : Pos} (hfs : splitAtGen fs = none) (x : wpAny M (B.over c fs) (eval e env) (fun v z => ∀ p k, (∀ B' Ψ z', Sg M B' c (K .next) fs z' Ψ → Sg M B' c (k (.send .none)) fs z' Ψ) → Φ (.susp v (gd false) (lv []) k c p fs) z) (fun a z => Sg M B c (J a) fs z Φ) s)
    (hco : env.scope.isCoroutine = false := by rfl) (hi : interactive env = false := by rfl) : Sg M B c ((exec (.Expr (.Yield (some e) yp) pos) env).wrap K J gd lv) fs s Φ := by
  rw [exec_Expr env _ pos hi rfl]
  show Sg M B c (.at pos fun _ => ((eval e env >>= fun v => (standAt yp >>= fun _ => yieldOut env v)) >>= fun u => dropValue (.Yield (some e) yp) pos u).wrap K J gd lv) fs s Φ
  have hy : ∀ v, yieldOut env v = yieldValue v := fun v => by simp only [yieldOut, hco, Bool.false_eq_true, if_false]
  simp only [hy]
  refine sg_at ?_
  rw [Sem.bind_eq_wrap', Sem.bind_eq_wrap', Sem.wrap_wrap, Sem.wrap_wrap]
  refine sg_wrap (wpAny_mono x (fun v z y => ?_) fun _ _ y => y)
  exact sg_at (sg_yield hfs fun p => y p _ fun B' Ψ z' q => q)
/-- what becomes of an error that a loop's own code lets out -/
def cameOut (env : Env) (u : Value) : Sem Unit := do
  if (← field u 1) == .none then unsupported "frame.own-activation:exception-without-traceback"
  setFlight u env.frame
def outOf (env : Env) (K : Flow → Sem PySem.Fin) (J : Value → Sem PySem.Fin) (gd : Bool → Bool) (lv : List Value → List Value) : Result → Sem PySem.Fin := fun r => ((match r with
  | .ok f => (.pure f : Sem Flow)
  | .error e => .raise e).onRaise (cameOut env)).wrap K J gd lv
def notedOut (env : Env) (u : Value) : Sem PySem.Fin := (do noteFrame u env; theTreesLotGoes u : Sem Unit).wrap (fun _ => .raise u) .raise id id
theorem sg_while {test : Expr} {body orelse : List Stmt} {pos : Pos} (x : ∀ p, Sg M B (.whileLoop test body orelse env) (M.den (.whileLoop test body orelse env)) (.ret (outOf env K J gd lv) none (gd false) (lv []) c p [] :: fs) s Φ) :
    Sg M B c ((exec (.While test body orelse pos) env).wrap K J gd lv) fs s Φ := sg_at (sg_call x)
theorem sg_func {P : Program} {w : World} {body : List Stmt}
    (x : Sg (model P w) B (.func body env) ((execs body env).wrap (fun f => .pure (.done (.ret (match f with
      | .ret v => v
      | _ => .none)))) (fun a => (leaving env a).wrap (fun _ => .raise a) .raise id id) id id) fs s Φ) : Sg (model P w) B (.func body env) ((model P w).den (.func body env)) fs s Φ := by
  show Sg (model P w) B _ (.point [] fun _ => (execs body env).onRaise (leaving env) >>= _) fs s Φ
  refine sg_point ?_
  rw [Sem.onRaise_eq_wrap, Sem.bind_eq_wrap', Sem.wrap_wrap]
  rw [Sem.wrap_congr (execs body env) _ _ (K' := fun f => .pure (.done (.ret (match f with
      | .ret v => v
      | _ => .none)))) (H' := fun a => (leaving env a).wrap (fun _ => .raise a) .raise id id) (fun f => by cases f <;> rfl) fun a => by rw [Sem.bind_eq_wrap, Sem.wrap_wrap]; rfl]
  exact x
end
section
variable {P : Program} {w : World} {B : Around} {fs : List Frame} {s : Shared} {Φ : EndP} {env : Env}
/-- what a turn's flow means to the loop -/
def turnTo (again : Code) : Flow → Sem PySem.Fin
  | .next | .cont => .pure (.again again)
  | .brk => .pure (.done .next)
  | .ret v => .pure (.done (.ret v))
theorem sg_whileTurn {test : Expr} {body orelse : List Stmt}
    (x : wpAny (model P w) (B.over (.whileLoop test body orelse env) fs) (isTrue test env (eval test env)) (fun b z => if b = true then
        Sg (model P w) B (.whileLoop test body orelse env) ((execs body env).wrap (turnTo (.whileLoop test body orelse env)) (notedOut env) id id) fs z Φ
      else Sg (model P w) B (.whileLoop test body orelse env) ((execs orelse env).wrap (fun f => .pure (.done f)) (notedOut env) id id) fs z Φ)
      (fun a z => Sg (model P w) B (.whileLoop test body orelse env) (notedOut env a) fs z Φ) s) :
    Sg (model P w) B (.whileLoop test body orelse env) ((model P w).den (.whileLoop test body orelse env)) fs s Φ := by
  show Sg (model P w) B (.whileLoop test body orelse env) ((whileTurn test body orelse env).onRaise fun a => do noteFrame a env; theTreesLotGoes a) fs s Φ
  unfold whileTurn
  have en : ∀ a, (do noteFrame a env; theTreesLotGoes a : Sem Unit).bind (fun _ => (.raise a : Sem PySem.Fin)) = notedOut env a := fun a => Sem.bind_eq_wrap _ _
  rw [Sem.onRaise_eq_wrap]
  rw [Sem.wrap_congr _ _ _ (K' := .pure) (H' := notedOut env) (fun _ => rfl) (fun a => en a)]
  refine sg_bw (wpAny_mono x (fun b z y => ?_) fun a z y => y)
  cases b with
  | true =>
    rw [if_pos rfl] at y ⊢
    rw [Sem.bind_eq_wrap', Sem.wrap_wrap]
    exact Sg.cast (Sem.wrap_congr (execs body env) _ _ (fun f => by cases f <;> rfl) fun a => rfl) y
  | false =>
    rw [if_neg Bool.false_ne_true] at y ⊢
    rw [Sem.bind_eq_wrap', Sem.wrap_wrap]
    exact Sg.cast (Sem.wrap_congr (execs orelse env) _ _ (fun f => rfl) fun a => rfl) y
end
end DL.GF
/-! a generator is woken -/
namespace DL.GF
open PySem PySem.Spec PyProof.Rows GenW L2
open Sem (wp)
/-- what is wanted of a sleeper's run -/
def Wakens (M : Model) (B : Around) (gs : GenState) (z : Shared) (Φ : EndP) : Prop :=
  match gs with
  | .fresh c => Sg M B c (M.den c) [] z Φ
  | .suspended k _ c _ fs _ => Sg M B c (k (.send .none)) fs z Φ
  | _ => False
theorem wp_wakes {α : Type} {M : Model} {A : Around} {E : Value → Shared → Prop} {s : Shared} {g : Nat} {gs : GenState} {l : List Value} {k : GenResult → Sem α} {Q : α → Shared → Prop} {Φ : EndP} (hg : s.gens[g]? = some gs)
    (hw : Wakens M A gs (s.setGen g .running) Φ) (hk : ∀ e z, Φ e z → e.quiet = true ∧ wpAny M A (k e.result) Q E (z.setGen g e.genState)) : wpAny M A (.resume g (.send .none) l k) Q E s := by
  intro Γ p hΓ
  rw [Sem.wp_resume]
  have go : ∀ {c : Code} {p0 : Pos} {t : Sem PySem.Fin} {fs : List Frame}, Sg M A c t fs (s.setGen g .running) Φ → ∃ e z, Runs M (Γ.wake c p) p0 t fs (s.setGen g .running) e z ∧ Φ e z := fun x => x (Γ.wake _ p) _ rfl (hΓ.wake _ p)
  cases gs with
  | running => exact hw.elim
  | finished => exact hw.elim
  | fresh c =>
    obtain ⟨e, z, hr, he⟩ := go (p0 := p) hw
    obtain ⟨hq, y⟩ := hk e z he
    refine ⟨e.result, z.setGen g e.genState, ?_, y Γ p hΓ⟩
    unfold Wakes
    rw [hg]
    exact ⟨e, z, hr, hq, rfl, rfl⟩
  | suspended k₀ l₀ c₀ p₀ fs cl =>
    obtain ⟨e, z, hr, he⟩ := go (p0 := p₀) hw
    obtain ⟨hq, y⟩ := hk e z he
    refine ⟨e.result, z.setGen g e.genState, ?_, y Γ p hΓ⟩
    unfold Wakes
    rw [hg]
    exact ⟨e, z, hr, hq, rfl, rfl⟩
/-- what the one who asks for the next thing gets -/
def NextQ (Q : Option Value → Shared → Prop) (g : Nat) : EndP := fun e z => e.quiet = true ∧ match e with
  | .susp v a l k c p fs => Q (some v) (z.setGen g (End.susp v a l k c p fs).genState)
  | .ret (.ok f) => (f = .ret .none ∨ f = .next) ∧ ∀ h', (∀ b o, z.heap.get? b = some o → h'.get? b = some o) → Q none { z.setGen g .finished with heap := h' }
  | .ret (.error _) => False
theorem next_wakes {P : Program} {w : World} {A : Around} {E : Value → Shared → Prop} {s : Shared} {a : Addr} {g : Nat} {gs : GenState} {Q : Option Value → Shared → Prop} {Φ : EndP} (hh : A.handled = none) (lim : s.heap.NoLimit) (room : A.depth < recursionLimit)
    (ha : s.heap.IsGen a g) (hg : s.gens[g]? = some gs) (hw : Wakens (model P w) A.in1 gs (s.setGen g .running) Φ) (hQ : ∀ e z, Φ e z → NextQ Q g e z) : wpAny (model P w) A (pyNext (.ref a)) Q E s := by
  have alive : gs ≠ .running ∧ gs ≠ .finished := ⟨fun z => by subst z; exact hw, fun z => by subst z; exact hw⟩
  unfold pyNext
  refine wpAny_bind (wpAny_attempt ?_)
  refine wpAny_callSpecial?_slot (name := Str.ofString "__next__") ha.typeIs slot_gen_next ?_
  refine wpAny_call_entry slot_gen_next ha.typeIs entry_gen_next ?_ (args_gen_next _)
  show wpAny (model P w) A.in1 (Builtin.Generator.genWake (.ref a) (.send .none)) _ _ s
  unfold Builtin.Generator.genWake
  refine wpAny_bind (wpAny_holding ?_)
  refine wpAny_genNumber ha ?_
  refine wpAny_bind (wpAny_genState hg ?_)
  have woken : ∀ {α : Type} {k : GenResult → Sem α} {R : α → Shared → Prop} {F : Value → Shared → Prop}, (∀ (v : Value) (z : Shared) (gs' : GenState), Q (some v) (z.setGen g gs') → wpAny (model P w) A.in1 (k (.yielded v)) R F (z.setGen g gs')) →
      (∀ z : Shared, (∀ h' : Heap, (∀ b o, z.heap.get? b = some o → h'.get? b = some o) → Q none { z.setGen g .finished with heap := h' }) → wpAny (model P w) A.in1 (k (.returned .none)) R F (z.setGen g .finished)) →
      wpAny (model P w) A.in1 (.resume g (.send .none) [] k) R F s := fun {α k R F} h1 h2 => by
    refine wp_wakes hg hw fun e z he => ?_
    obtain ⟨hq, hz⟩ := hQ e z he
    refine ⟨hq, ?_⟩
    cases e with
    | susp v a l k c p fs => exact h1 v z _ hz
    | ret r =>
      cases r with
      | error e => exact hz.elim
      | ok f =>
        obtain ⟨hf, hz⟩ := hz
        have er : End.result (.ret (.ok f)) = .returned .none := by rcases hf with hf | hf <;> rw [hf] <;> rfl
        rw [er]
        exact h2 z hz
  cases gs with
  | running => exact (alive.1 rfl).elim
  | finished => exact (alive.2 rfl).elim
  | _ =>
    refine wpAny_bind (wpAny_roomToWake lim room ?_)
    refine woken (fun v z gs' q => ?_) fun z q => ?_
    · exact wpAny_pure ⟨v, rfl, wpAny_pure q⟩
    · show wpAny (model P w) A.in1 (newExc (.type "StopIteration") [] >>= _) _ _ (z.setGen g .finished)
      have kept : ∀ (o1 o2 : Obj) (b : Addr) (o : Obj), z.heap.get? b = some o → ((z.heap.push o1).push o2).get? b = some o := fun _ _ _ _ y => Heap.get?_push_of_some _ (Heap.get?_push_of_some _ y)
      refine wpAny_bind ?_
      simp only [newExc, newTuple]
      refine wpAny_bind ?_
      refine wpAny_newObj_type ?_ (by size_fits)
      refine wpAny_bind (m := firstArgMember _ _) ?_
      refine wpAny_of_eq (a := Value.none) (by first | rfl | (simp only [firstArgMember]; rfl)) ?_
      refine wpAny_newObj_type ?_ (by size_fits)
      simp only [raiseNew]
      refine wpAny_bind (wpAny_bind ?_)
      refine wpAny_handled ?_
      have e0 : A.in1.handled = none := hh
      rw [e0]
      refine wpAny_throw ?_
      refine wpAny_bind ?_
      refine wpAny_isInstance (T := "StopIteration") (b := true) ⟨_, Heap.get?_push_size _ rfl, rfl⟩ isSubtype_stop ?_
      exact wpAny_pure (q _ (kept _ _))
end DL.GF
/-! a generator's frame while it sleeps: its own objects are tracked as they stand -/
namespace DL.GF
open PySem PySem.Spec PyProof.Rows GenW L2
/-! ### the heap up to a place -/
def cut (L : Addr) (h : Heap) : Heap := { h with objs := h.objs.extract 0 L }
section
variable {L b : Addr} {h h' : Heap} {o : Obj}
theorem cut_lt (hb : b < L) : (cut L h).get? b = h.get? b := by
  unfold Heap.get? cut
  dsimp only
  have e : (h.objs.extract 0 L)[b]? = h.objs[b]? := by
    rw [Array.getElem?_extract]
    by_cases hs : b < h.objs.size
    · rw [Nat.zero_add, if_pos (by rw [Nat.sub_zero]; exact Nat.lt_min.mpr ⟨hb, hs⟩)]
    · rw [Nat.zero_add, Array.getElem?_eq_none (Nat.le_of_not_lt hs)]
      split <;> rfl
  rw [e]
theorem cut_size (hl : L ≤ h.objs.size) : (cut L h).objs.size = L := by
  unfold cut
  dsimp only
  rw [Array.size_extract, Nat.sub_zero]
  exact Nat.min_eq_left hl
theorem cut_some (hl : L ≤ h.objs.size) (e : (cut L h).get? b = some o) : b < L ∧ h.get? b = some o := by
  have hb : b < L := by
    have := Heap.lt_size e
    rw [cut_size hl] at this
    exact this
  exact ⟨hb, by rw [← cut_lt hb]; exact e⟩
/-- what is younger -/
def young (L : Addr) (h : Heap) : List Addr := (List.range h.objs.size).filter fun b => decide (L ≤ b)
theorem mem_young : b ∈ young L h ↔ b < h.objs.size ∧ L ≤ b := by
  unfold young
  rw [List.mem_filter, List.mem_range, decide_eq_true_eq]
theorem not_young (e : h.get? b = some o) (hn : b ∉ young L h) : b < L := Nat.lt_of_not_le fun z => hn (mem_young.mpr ⟨Heap.lt_size e, z⟩)
theorem funs_cut {base : Heap} : ∀ {l : List Env}, h.FunFrames base l → (∀ b ∈ frs l, b < L) → (cut L h).FunFrames base l
  | [], _, _ => trivial
  | env :: r, ⟨hk, ⟨a, o, hf, hn, ho, hd⟩, hr⟩, hb => by
    have mem : ∀ b, b = a ∨ b ∈ frs r → b ∈ frs (env :: r) := fun b z => by
      unfold frs
      rw [List.filterMap_cons, hf]
      exact List.mem_cons.mpr z
    exact ⟨hk, ⟨a, o, hf, hn, (cut_lt (hb a (mem a (.inl rfl)))).trans ho, hd⟩, funs_cut hr fun b z => hb b (mem b (.inr z))⟩
end
/-! ### the frame -/
structure GG where
  P : Program
  w : World
  K : PySem.W.Frag
  mg : Str → Option Value
  base : Heap
  N : List Str
  env : Env
  outer : List Env
  k : Nat
abbrev GG.L (G : GG) : Addr := G.env.locals
structure GG.Ok (G : GG) : Prop where
  mod : Mod G.K G.mg G.base
  kind : G.env.scope.kind = .function
  glob : G.env.globals = mainGlobals
  blt : G.env.builtins = builtinsNs
  frame : G.env.frame = some G.env.locals
  inj : ∀ x y c, G.env.cells.lookup x = some c → G.env.cells.lookup y = some c → x = y
  has : ∀ x, (G.env.kindOf x = some .cell ∨ G.env.kindOf x = some .free) → ∃ c, G.env.cells.lookup x = some c
  cab : ∀ x c, G.env.cells.lookup x = some c → G.L ≤ c
  bsz : G.base.objs.size ≤ G.L
  frs : ∀ b ∈ frs G.outer, b < G.L
/-- its context at a stretch that begins at s0, H0 -/
def gx (G : GG) (B : Around) (s0 : Shared) (H0 : Hp) : Cx where
  prog := G.P
  w := G.w
  K := G.K
  mg := G.mg
  base := G.base
  A := B.deeper G.env
  N := G.N
  s_0 := s0
  H_0 := H0
  env := G.env
  outer := G.outer
  stack := G.env :: G.outer
  ex := []
  fn := fun _ => true
  calm := true
  pn := []
  xe := fun _ _ => False
theorem gx_po {G : GG} {B : Around} {s0 : Shared} {H0 : Hp} : PassesOwn (model G.P G.w) (gx G B s0 H0).A (gx G B s0 H0).env (gx G B s0 H0).xe := .never
def atL (G : GG) (s : Shared) : Shared := { s with heap := cut G.L s.heap }
section
variable {G : GG} {B B' : Around} {s z : Shared} {H H0 H' Hg : Hp} {ip : List (Addr × Obj)} {σ : L2.St}
theorem gx_ok (O : G.Ok) (hd : B.handled = none) (e : Env0 G.P G.w G.K G.mg G.base B G.outer s H) (hL : G.L ≤ s.heap.objs.size) (h0 : ∀ b, H b = none → H0 b = none) : (gx G B (atL G s) H0).Ok where
  mod := O.mod
  kind := O.kind
  glob := O.glob
  blt := O.blt
  above := Nat.le_of_eq (cut_size hL)
  inj := O.inj
  has := O.has
  cab := fun x c _ q => Nat.le_trans (Nat.le_of_eq (cut_size hL)) (O.cab x c q)
  hd := fun _ => hd
  frames := Around.frames_deeper e.frames
  stk := .inr ⟨rfl, O.frame⟩
  exf := fun b q => nomatch q
  bs := fun b o q => by
    obtain ⟨e1, e2⟩ := e.bs b o q
    exact ⟨(cut_lt (Nat.lt_of_lt_of_le (Heap.lt_size q) O.bsz)).trans e1, h0 b e2⟩
  bsz := by
    show G.base.objs.size ≤ (cut G.L s.heap).objs.size
    rw [cut_size hL]
    exact O.bsz
  noex := fun _ _ _ q => nomatch q
  exfs := fun _ q => nomatch q
  funs := funs_cut e.funs O.frs
  frf := fun b hb => h0 b (e.frf b hb)
/-- the frame's own places -/
def Priv (G : GG) (ip : List (Addr × Obj)) (b : Addr) : Prop := b = G.L ∨ (∃ x, G.env.cells.lookup x = some b) ∨ ∃ p ∈ ip, p.1 = b
open Classical in
noncomputable def awakeH (G : GG) (ip : List (Addr × Obj)) (H : Hp) : Hp := fun b => if Priv G ip b then none else H b
open Classical in
noncomputable def asleepH (G : GG) (ip : List (Addr × Obj)) (h : Heap) (H : Hp) : Hp := fun b => if Priv G ip b then some (.ext fun h1 => h1.get? b = h.get? b) else H b
theorem awake_priv {b : Addr} (h : Priv G ip b) : awakeH G ip H b = none := by unfold awakeH; rw [if_pos h]
theorem awake_else {b : Addr} (h : ¬ Priv G ip b) : awakeH G ip H b = H b := by unfold awakeH; rw [if_neg h]
theorem asleep_priv {b : Addr} {h : Heap} (q : Priv G ip b) : asleepH G ip h H b = some (.ext fun h1 => h1.get? b = h.get? b) := by unfold asleepH; rw [if_pos q]
theorem asleep_else {b : Addr} {h : Heap} (q : ¬ Priv G ip b) : asleepH G ip h H b = H b := by unfold asleepH; rw [if_neg q]
theorem awake_none {b : Addr} (q : H b = none) : awakeH G ip H b = none := by
  by_cases h : Priv G ip b
  · exact awake_priv h
  · rw [awake_else h]; exact q
theorem awake_some {b : Addr} {u : HO} (q : awakeH G ip H b = some u) : H b = some u ∧ ¬ Priv G ip b := by
  by_cases h : Priv G ip b
  · rw [awake_priv h] at q; cases q
  · rw [awake_else h] at q; exact ⟨q, h⟩
/-- what stands there, in a run -/
theorem Inv.privs {s0 : Shared} (I : Inv (gx G B s0 H0) ip σ Hg z) {b : Addr} (h : Priv G ip b) : Hg b = none ∧ ∃ o, z.heap.get? b = some o := by
  rcases h with h | ⟨x, h⟩ | ⟨p, hp, rfl⟩
  · subst h
    obtain ⟨m, ⟨o, _, _, e, _⟩, _⟩ := I.loc
    exact ⟨I.free, o, e⟩
  · obtain ⟨v, o, e, _⟩ := I.cell x b h
    exact ⟨I.freeC x b h, o, e⟩
  · obtain ⟨e, n, _⟩ := I.pin p (List.mem_append_right _ hp)
    exact ⟨n, _, e⟩
theorem asleep_some {s0 : Shared} (I : Inv (gx G B s0 H0) ip σ Hg z) {b : Addr} {u : HO} {h : Heap} (q : Hg b = some u) : asleepH G ip h Hg b = some u := by
  rw [asleep_else fun y => by rw [(Inv.privs I y).1] at q; cases q]
  exact q
theorem hok_asleep {s0 : Shared} (I : Inv (gx G B s0 H0) ip σ Hg z) : HOk G.P G.w (asleepH G ip z.heap Hg) z.heap := fun b u e => by
  by_cases h : Priv G ip b
  · rw [asleep_priv h] at e
    cases e
    obtain ⟨_, o, ho⟩ := Inv.privs I h
    refine ⟨rfl, ⟨o, ho⟩, fun h1 h2 p k => ?_⟩
    have p : h1.get? b = z.heap.get? b := p
    rw [ho] at p
    show h2.get? b = z.heap.get? b
    rw [ho]
    exact k o p
  · rw [asleep_else h] at e
    exact (I.hok b u e).stay (fun _ _ _ y => y) (fun _ y => asleep_some I y) fun _ _ y => asleep_some I y
theorem hok_awake (h : HOk G.P G.w H s.heap) (hx : ∀ b, Priv G ip b → ∃ φ, H b = some (.ext φ)) : HOk G.P G.w (awakeH G ip H) s.heap := fun b u e => by
  obtain ⟨e, hn⟩ := awake_some e
  have st : ∀ {c : Addr} {v : HO}, H c = some v → (∀ φ, v ≠ .ext φ) → awakeH G ip H c = some v := fun {c v} y hv => by
    rw [awake_else fun y2 => ?_]
    · exact y
    · obtain ⟨φ, y3⟩ := hx c y2
      rw [y] at y3
      exact hv φ (Option.some.inj y3)
  exact (h b u e).stay (fun _ _ _ y => y) (fun _ y => st y fun _ z => nomatch z) fun _ _ y => st y fun _ z => nomatch z
/-- the frame wakes: all that it holds stands there still -/
theorem inv_wake {s0 : Shared} (O : G.Ok) (I : Inv (gx G B' s0 H0) ip σ Hg z) (hd : B.handled = none) (e : Env0 G.P G.w G.K G.mg G.base B G.outer s H) (hL : G.L ≤ s.heap.objs.size) (hx : ∀ b, Priv G ip b → ∃ φ, H b = some (.ext φ))
    (keep : ∀ b o, Priv G ip b → z.heap.get? b = some o → s.heap.get? b = some o) : Inv (gx G B (atL G s) (awakeH G ip H)) ip σ (awakeH G ip H) s where
  ok := gx_ok O hd e hL fun b y => awake_none y
  os := rfl
  bare := e.bare
  base := ⟨fun b o q _ _ _ => (cut_some hL q).2, fun b o q _ _ _ => ⟨o.slots, (cut_some hL q).2⟩, fun _ _ _ n _ => n, fun b o q _ => ⟨o, (cut_some hL q).2⟩, fun _ _ q => q, fun _ _ _ q => q, fun _ ps q => ⟨#[], by rw [Array.append_empty]; exact q⟩⟩
  loc := by
    obtain ⟨m, ⟨o, es, ep, ho, r⟩, hl⟩ := I.loc
    refine ⟨m, ⟨o, es, ep, keep _ o (.inl rfl) ho, r⟩, fun i x v e1 e2 e3 => ?_⟩
    obtain ⟨u, rv, lk⟩ := hl i x v e1 e2 e3
    refine ⟨u, rv, ?_⟩
    rcases lk with lk | ⟨kk, c, hc, ob, eb, db⟩
    · exact .inl lk
    · exact .inr ⟨kk, c, hc, ob, keep c ob (.inr (.inl ⟨x, hc⟩)) eb, db⟩
  cell := fun x c hc => by
    obtain ⟨v, ob, eb, db⟩ := I.cell x c hc
    exact ⟨v, ob, keep c ob (.inr (.inl ⟨x, hc⟩)) eb, db⟩
  free := awake_priv (.inl rfl)
  freeC := fun x c hc => awake_priv (.inr (.inl ⟨x, hc⟩))
  pin := fun p hp => by
    obtain ⟨e1, _, e3⟩ := I.pin p hp
    have hm : Priv G ip p.1 := .inr (.inr ⟨p, (List.mem_append.mp hp).elim (fun y => nomatch y) id, rfl⟩)
    exact ⟨keep _ _ hm e1, awake_priv hm, e3⟩
  hok := hok_awake e.hok hx
  len := I.len
/-- what the others see of a stretch -/
theorem un_awake (hL : G.L ≤ s.heap.objs.size) (hx : ∀ b, Priv G ip b → ∃ φ, H b = some (.ext φ)) (U : Un (frs G.outer) [] (awakeH G ip H) Hg (cut G.L s.heap) z.heap) : Un (frs G.outer) (young G.L s.heap) H Hg s.heap z.heap := by
  have old : ∀ b o, s.heap.get? b = some o → b ∉ young G.L s.heap → (cut G.L s.heap).get? b = some o := fun b o q hn => (cut_lt (not_young q hn)).trans q
  have aw : ∀ {b : Addr} {v : HO}, H b = some v → (∀ φ, v ≠ .ext φ) → awakeH G ip H b = some v := fun {b v} y hv => by
    rw [awake_else fun y2 => ?_]
    · exact y
    · obtain ⟨φ, y3⟩ := hx b y2
      rw [y] at y3
      exact hv φ (Option.some.inj y3)
  exact ⟨fun b o q n hb hc => U.keep b o (old b o q hc) (awake_none n) hb (fun y => nomatch y), fun b o q n hb hc => U.slot b o (old b o q hc) (awake_none n) hb (fun y => nomatch y), fun b o q n hc => U.free b o (old b o q hc) (awake_none n) (fun y => nomatch y),
    fun b o q hc => U.there b o (old b o q hc) (fun y => nomatch y), fun b xs q => U.tups b xs (aw q fun _ y => nomatch y), fun b o u q => U.frzs b o u (aw q fun _ y => nomatch y), fun b ps q => U.tbls b ps (aw q fun _ y => nomatch y)⟩
theorem un_asleep {s0 : Shared} {ip' : List (Addr × Obj)} {h : Heap} {fs ys : List Addr} (O : G.Ok) (I : Inv (gx G B s0 H0) ip' σ Hg z) (ipL : ∀ p ∈ ip', G.L ≤ p.1) (hy : ∀ b o, h.get? b = some o → b ∉ ys → b < G.L) (U : Un fs ys H Hg h z.heap) : Un fs ys H (asleepH G ip' z.heap Hg) h z.heap := by
  refine ⟨U.keep, U.slot, fun b o q n hc => ?_, U.there, fun b xs q => asleep_some I (U.tups b xs q), fun b o u q => asleep_some I (U.frzs b o u q), fun b ps q => ?_⟩
  · rw [asleep_else fun y => ?_]
    · exact U.free b o q n hc
    · have hb := hy b o q hc
      rcases y with y | ⟨x, y⟩ | ⟨p, hp, y⟩
      · rw [y] at hb; exact Nat.lt_irrefl _ hb
      · exact absurd (O.cab x b y) (Nat.not_le.mpr hb)
      · exact absurd (y ▸ ipL p hp) (Nat.not_le.mpr hb)
  · obtain ⟨more, y⟩ := U.tbls b ps q
    exact ⟨more, asleep_some I y⟩
end
end DL.GF
/-! generators over data -/
namespace DL.GF
open PySem PySem.Spec PyProof.Rows GenW L2
variable [TabC]
/-- when it wakes: the around, the state, what is tracked, what it must not meet, its own tracked things, the draws; where its own stretch begins -/
structure WD where
  B : Around
  s : Shared
  H : Hp
  A : AS
  Pr : AS
  n : Nat
/-- the generator: its frame, the state of the draws, its object and number -/
structure GT extends GG where
  aS : Addr
  a : Addr
  g : Nat
  go : Obj
/-- what it may lean on when it wakes (Gl, Hl, Al: the generators, what was tracked, what was not to be met, when it fell asleep) -/
structure WOk (G : GT) (Gl : Array GenState) (Hl : Hp) (Al : AS) (q : WD) : Prop where
  env : Env0 G.P G.w G.K G.mg G.base q.B G.outer q.s q.H
  room : Room G.k q.B
  kept : ∀ b u, Hl b = some u → ¬ Al b → Kp1 u (q.H b)
  tups : ∀ b xs, Hl b = some (.tup xs) → q.H b = some (.tup xs)
  av : ∀ b, q.A b → Al b ∨ Hl b = none
  aS : q.A G.aS
  dom : ∀ b, q.A b → ∃ u, q.H b = some u
  prA : ∀ b, q.Pr b → ¬ q.A b
  st : StA G.K G.aS q.H q.n
  slp : Slp (fun i => G.g < i) Gl q.s.gens
  gsz : G.g < q.s.gens.size
/-- what others see of a stretch -/
structure Aft (G : GT) (q : WD) (Pr' : AS) (z : Shared) (H' : Hp) : Prop where
  os : z.os = q.s.os
  bare : AllBare z.gens
  slp : Slp (fun i => i < G.g) q.s.gens z.gens
  un : Un (frs G.outer) (young G.L q.s.heap) q.H H' q.s.heap z.heap
  hok : HOk G.P G.w H' z.heap
  kp : ∀ b u, q.H b = some u → ¬ q.Pr b → b ≠ G.aS → Kp1 u (H' b)
  st : StA G.K G.aS H' q.n
  new : ∀ b, Pr' b → q.Pr b ∨ q.H b = none
  on : ∀ b, Pr' b → ∃ u, H' b = some u
/-- its object stands, tracked as its own -/
def GenAt (G : GT) (Pr' : AS) (H' : Hp) : Prop := Pr' G.a ∧ ∃ φ, H' G.a = some (.ext φ) ∧ ∀ h : Heap, φ h → h.IsGen G.a G.g
/-- it sleeps, these things are left to be handed out -/
def Sleep (G : GT) : List D → GenState → Array GenState → Hp → AS → AS → Prop
  | [], gs, Gl, Hl, Al, Pr => ∀ q : WD, q.Pr = Pr → WOk G Gl Hl Al q → Wakens (model G.P G.w) q.B gs q.s fun e z => e = .ret (.ok (.ret .none)) ∧ ∃ H', Aft G q (fun _ => False) z H'
  | d :: ys, gs, Gl, Hl, Al, Pr => ∀ q : WD, q.Pr = Pr → WOk G Gl Hl Al q → Wakens (model G.P G.w) q.B gs q.s fun e z => e.quiet = true ∧ ∃ v l k c p fs x H' Pr', e = .susp v false l k c p fs ∧ Aft G q Pr' z H' ∧ GenAt G Pr' H' ∧ RelV x v ∧
      Rep G.K G.aS H' (fun b => q.A b ∨ Pr' b) d x ∧ Sleep G ys e.genState z.gens H' q.A Pr'
/-- what a stretch is to reach -/
def Post (G : GT) (ys : List D) (q : WD) : EndP := match ys with
  | [] => fun e z => e = .ret (.ok (.ret .none)) ∧ ∃ H', Aft G q (fun _ => False) z H'
  | d :: ys => fun e z => e.quiet = true ∧ ∃ v l k c p fs x H' Pr', e = .susp v false l k c p fs ∧ Aft G q Pr' z H' ∧ GenAt G Pr' H' ∧ RelV x v ∧ Rep G.K G.aS H' (fun b => q.A b ∨ Pr' b) d x ∧ Sleep G ys e.genState z.gens H' q.A Pr'
theorem sleep_iff {G : GT} {ys : List D} {gs : GenState} {Gl : Array GenState} {Hl : Hp} {Al Pr : AS} : Sleep G ys gs Gl Hl Al Pr ↔ ∀ q : WD, q.Pr = Pr → WOk G Gl Hl Al q → Wakens (model G.P G.w) q.B gs q.s (Post G ys q) := by
  cases ys with
  | nil => unfold Sleep Post; exact Iff.rfl
  | cons d ys =>
    constructor
    · intro h
      unfold Sleep at h
      exact h
    · intro h
      unfold Sleep
      exact h
/-- a stretch's own beginning -/
structure QOk (G : GT) (q : WD) (H0 : Hp) : Prop where
  room : Room G.k q.B
  aS : q.A G.aS
  dom : ∀ b, q.A b → ∃ u, q.H b = some u
  prA : ∀ b, q.Pr b → ¬ q.A b
  size : G.L ≤ q.s.heap.objs.size
  at0 : ∃ ip, H0 = awakeH G.toGG ip q.H ∧ ∀ b, Priv G.toGG ip b → ∃ φ, q.H b = some (.ext φ)
/-- amid a stretch: ip: what is pinned; Px: what those that sleep within hold; O: what slots own -/
structure Run (G : GT) (q : WD) (H0 : Hp) (ip : List (Addr × Obj)) (Px : AS) (O : List Nat) (σ : L2.St) (H : Hp) (z : Shared) (sv : Ev) : Prop where
  ok : QOk G q H0
  inv : Inv (gx G.toGG q.B (atL G.toGG q.s) H0) ip σ H z
  ipL : ∀ p ∈ ip, G.L ≤ p.1
  ga : (G.a, G.go) ∈ ip
  sr : SR G.K G.aS O ⟨fun b => q.A b ∨ Px b, none⟩ (bare O σ H) σ H sv q.n
  kp : ∀ b u, q.H b = some u → ¬ q.Pr b → b ≠ G.aS → Kp1 u (H b)
  ow : ∀ i b, i ∈ O → σ[i]? = some (some (.ref b)) → q.Pr b ∨ q.H b = none
  px : ∀ b, Px b → q.Pr b ∨ q.H b = none
  slp : Slp (fun i => i < G.g) q.s.gens z.gens
  gsz : G.g < z.gens.size
/-- from here to there -/
structure Lk (g : Nat) (aS : Addr) (q : WD) (O : List Nat) (σ : L2.St) (H : Hp) (z : Shared) (q' : WD) (O' : List Nat) (σ' : L2.St) (H' : Hp) (z' : Shared) : Prop where
  kept : ∀ b u, H b = some u → ¬ AV aS q.A O σ b → Kp1 u (H' b)
  tups : ∀ b xs, H b = some (.tup xs) → H' b = some (.tup xs)
  av : ∀ b, AV aS q'.A O' σ' b → AV aS q.A O σ b ∨ H b = none
  slp : Slp (fun i => g < i) z.gens z'.gens
section
variable {g : Nat} {aS : Addr} {q q1 q2 : WD} {O O1 O2 : List Nat} {σ σ1 σ2 : L2.St} {H H1 H2 : Hp} {z z1 z2 : Shared}
theorem Lk.refl : Lk g aS q O σ H z q O σ H z := ⟨fun b u h _ => .of h, fun b xs h => h, fun b h => .inl h, Slp.refl _⟩
theorem Lk.trans (a : Lk g aS q O σ H z q1 O1 σ1 H1 z1) (b : Lk g aS q1 O1 σ1 H1 z1 q2 O2 σ2 H2 z2) : Lk g aS q O σ H z q2 O2 σ2 H2 z2 where
  kept := fun c u h hn => by
    have k := a.kept c u h hn
    refine k.trans fun v hv => b.kept c v hv fun y => ?_
    rcases a.av c y with y | y
    · exact hn y
    · rw [h] at y; cases y
  tups := fun c xs h => b.tups c xs (a.tups c xs h)
  av := fun c h => by
    rcases b.av c h with y | y
    · exact a.av c y
    · by_cases hc : AV aS q.A O σ c
      · exact .inl hc
      · refine .inr (Option.eq_none_iff_forall_ne_some.mpr fun u hu => ?_)
        obtain ⟨v, hv⟩ := (a.kept c u hu hc).dom
        rw [hv] at y
        cases y
  slp := a.slp.trans b.slp
end
theorem Inv.regens {X : Cx} {pins : List (Addr × Obj)} {σ : L2.St} {H : Hp} {s : Shared} {G : Array GenState} (I : Inv X pins σ H s) (h : AllBare G) : Inv X pins σ H { s with gens := G } := ⟨I.ok, I.os, h, I.base, I.loc, I.cell, I.free, I.freeC, I.pin, I.hok, I.len⟩
section
variable {G : GT} {q : WD} {H0 : Hp} {ip : List (Addr × Obj)} {Px : AS} {O O' OL : List Nat} {σ σ' : L2.St} {H H' : Hp} {z z' : Shared} {sv sv' : Ev}
theorem Run.noA (r : Run G q H0 ip Px O σ H z sv) {b : Addr} (h : q.Pr b ∨ q.H b = none) : ¬ q.A b := fun y => by
  rcases h with h | h
  · exact r.ok.prA b h y
  · obtain ⟨u, hu⟩ := r.ok.dom b y
    rw [h] at hu; cases hu
/-- a stretch that hands out nothing -/
theorem Run.step (r : Run G q H0 ip Px O σ H z sv) (I : Inv (gx G.toGG q.B (atL G.toGG q.s) H0) ip σ' H' z') (S : SR G.K G.aS O' ⟨fun b => q.A b ∨ Px b, none⟩ (bare O σ H) σ' H' sv' q.n) (hs : Slp (fun _ => True) z.gens z'.gens) :
    Run G q H0 ip Px O' σ' H' z' sv' ∧ Lk G.g G.aS q O σ H z q O' σ' H' z' := by
  have own : ∀ b, (∃ i, i ∈ O ∧ σ[i]? = some (some (.ref b))) → q.Pr b ∨ q.H b = none := fun b ⟨i, hi, e⟩ => r.ow i b hi e
  have keep : ∀ b u, H b = some u → ¬ (∃ i, i ∈ O ∧ σ[i]? = some (some (.ref b))) → b ≠ G.aS → Kp1 u (H' b) := fun b u h hn ha => S.fr b u (by rw [bare_not hn]; exact h) ha
  have young' : ∀ i b, i ∈ O' → σ'[i]? = some (some (.ref b)) → (∃ i, i ∈ O ∧ σ[i]? = some (some (.ref b))) ∨ H b = none := fun i b hi e => by
    obtain ⟨d, b', e1, e2, e3, _⟩ := S.ow i hi
    rw [e] at e2
    cases e2
    by_cases hb : ∃ i, i ∈ O ∧ σ[i]? = some (some (.ref b))
    · exact .inl hb
    · rw [bare_not hb] at e3
      exact .inr e3
  refine ⟨⟨r.ok, I, r.ipL, r.ga, S.base, fun b u h hp ha => ?_, fun i b hi e => ?_, r.px, r.slp.trans (hs.mono fun _ _ => trivial), Nat.lt_of_lt_of_le r.gsz hs.size⟩, ⟨fun b u h hn => keep b u h (fun y => hn (.inr (.inr y))) fun y => hn (.inr (.inl y)), fun b xs h => ?_, fun b h => ?_, hs.mono fun _ _ => trivial⟩⟩
  · refine (r.kp b u h hp ha).trans fun v hv => keep b v hv (fun y => ?_) ha
    rcases own b y with y | y
    · exact hp y
    · rw [h] at y; cases y
  · rcases young' i b hi e with y | y
    · exact own b y
    · by_cases hp : q.Pr b
      · exact .inl hp
      · refine .inr (Option.eq_none_iff_forall_ne_some.mpr fun u hu => ?_)
        have hb : b ≠ G.aS := fun w => by
          obtain ⟨xs, hx⟩ := r.sr.st.lst
          rw [w, hx] at y
          cases y
        obtain ⟨v, hv⟩ := (r.kp b u hu hp hb).dom
        rw [hv] at y
        cases y
  · refine keep b (.tup xs) h (fun ⟨i, hi, e⟩ => ?_) fun y => ?_
    · obtain ⟨d, b', _, e2, _, _, _, o⟩ := r.sr.ow i hi
      rw [e] at e2
      cases e2
      cases d with
      | lst ds => obtain ⟨_, e, _⟩ := o; rw [h] at e; cases e
      | dic ds => obtain ⟨_, e, _⟩ := o; rw [h] at e; cases e
      | dmx ds => obtain ⟨_, e, _⟩ := o; rw [h] at e; unfold MD.MixO at e; cases e
      | obj C fs => obtain ⟨_, _, e, _⟩ := o; rw [h] at e; cases e
      | _ => exact o.elim
    · obtain ⟨ys, hy⟩ := r.sr.st.lst
      rw [y, hy] at h
      cases h
  · rcases h with h | h | ⟨i, hi, e⟩
    · exact .inl (.inl h)
    · exact .inl (.inr (.inl h))
    · rcases young' i b hi e with y | y
      · exact .inl (.inr (.inr y))
      · exact .inr y
end
/-! ### statements of a generator -/
structure GDE where
  nx : List D → Ev → Prop
  bk : List D → Ev → Prop := fun _ _ => False
  ct : List D → Ev → Prop := fun _ _ => False
abbrev GM := GDE → List D → Ev → Prop
/-- where its code stands -/
structure GC (G : GT) (c : Code) (fs : List Frame) (gd : Bool → Bool) : Prop where
  over : ∀ B : Around, B.over c fs = B.deeper G.env
  split : splitAtGen fs = none
  guard : fs.any Frame.guarded = false
  gd : gd false = false
/-- what goes on behind -/
structure GK (G : GT) (ip : List (Addr × Obj)) (Px : AS) (O' OL : List Nat) (c : Code) (fs : List Frame) (K : Flow → Sem PySem.Fin) (D : GDE) (q : WD) (O : List Nat) (σ : L2.St) (H : Hp) (z : Shared) : Prop where
  nx : ∀ q' H0' σ' H' z' sv' ys', Lk G.g G.aS q O σ H z q' O' σ' H' z' → Run G q' H0' ip Px O' σ' H' z' sv' → D.nx ys' sv' → Sg (model G.P G.w) q'.B c (K .next) fs z' (Post G ys' q')
  bk : ∀ q' H0' σ' H' z' sv' ys', Lk G.g G.aS q O σ H z q' OL σ' H' z' → Run G q' H0' ip Px OL σ' H' z' sv' → D.bk ys' sv' → Sg (model G.P G.w) q'.B c (K .brk) fs z' (Post G ys' q')
  ct : ∀ q' H0' σ' H' z' sv' ys', Lk G.g G.aS q O σ H z q' OL σ' H' z' → Run G q' H0' ip Px OL σ' H' z' sv' → D.ct ys' sv' → Sg (model G.P G.w) q'.B c (K .cont) fs z' (Post G ys' q')
theorem GK.from {G : GT} {ip : List (Addr × Obj)} {Px : AS} {O O1 O' OL : List Nat} {c : Code} {fs : List Frame} {K : Flow → Sem PySem.Fin} {D : GDE} {q q1 : WD} {σ σ1 : L2.St} {H H1 : Hp} {z z1 : Shared} (k : GK G ip Px O' OL c fs K D q O σ H z) (l : Lk G.g G.aS q O σ H z q1 O1 σ1 H1 z1) : GK G ip Px O' OL c fs K D q1 O1 σ1 H1 z1 :=
  ⟨fun q' H0' σ' H' z' sv' ys' l' => k.nx q' H0' σ' H' z' sv' ys' (l.trans l'), fun q' H0' σ' H' z' sv' ys' l' => k.bk q' H0' σ' H' z' sv' ys' (l.trans l'), fun q' H0' σ' H' z' sv' ys' l' => k.ct q' H0' σ' H' z' sv' ys' (l.trans l')⟩
def GV (G : GT) (O O' OL : List Nat) (st : Stmt) (m : GM) : Prop := ∀ (q : WD) (H0 : Hp) (ip : List (Addr × Obj)) (Px : AS) (σ : L2.St) (H : Hp) (z : Shared) (sv : Ev) (ys : List D) (c : Code) (fs : List Frame) (K : Flow → Sem PySem.Fin) (J : Value → Sem PySem.Fin) (gd : Bool → Bool) (lv : List Value → List Value) (D : GDE),
  GC G c fs gd → Run G q H0 ip Px O σ H z sv → GK G ip Px O' OL c fs K D q O σ H z → m D ys sv → Sg (model G.P G.w) q.B c ((exec st G.env).wrap K J gd lv) fs z (Post G ys q)
def GVs (G : GT) (O O' OL : List Nat) (st : List Stmt) (m : GM) : Prop := ∀ (q : WD) (H0 : Hp) (ip : List (Addr × Obj)) (Px : AS) (σ : L2.St) (H : Hp) (z : Shared) (sv : Ev) (ys : List D) (c : Code) (fs : List Frame) (K : Flow → Sem PySem.Fin) (J : Value → Sem PySem.Fin) (gd : Bool → Bool) (lv : List Value → List Value) (D : GDE),
  GC G c fs gd → Run G q H0 ip Px O σ H z sv → GK G ip Px O' OL c fs K D q O σ H z → m D ys sv → Sg (model G.P G.w) q.B c ((execs st G.env).wrap K J gd lv) fs z (Post G ys q)
def gNil : GM := fun D ys s => D.nx ys s
def gSeq (m r : GM) : GM := fun D ys s => m { D with nx := fun ys' s' => r D ys' s' } ys s
/-- a statement that hands out nothing -/
def gPl (m : SM) : GM := fun D ys s => ∀ n, m (fun _ _ => False) { nx := fun s' n' => n' = n ∧ D.nx ys s', rt := fun _ _ => False, bk := fun s' n' => n' = n ∧ D.bk ys s', ct := fun s' n' => n' = n ∧ D.ct ys s' } s n
section
variable {G : GT} {O O1 O' OL : List Nat} {st : Stmt} {rest a b : List Stmt} {m r : GM} {ms : SM}
theorem gvs_nil : GVs G O O OL [] gNil := fun q H0 ip Px σ H z sv ys c fs K J gd lv D _ hr k h => sg_nil (k.nx q H0 σ H z sv ys .refl hr h)
theorem gvs_cons (h1 : GV G O O1 OL st m) (h2 : GVs G O1 O' OL rest r) : GVs G O O' OL (st :: rest) (gSeq m r) := fun q H0 ip Px σ H z sv ys c fs K J gd lv D hc hr k h =>
  sg_cons (h1 q H0 ip Px σ H z sv ys c fs _ J gd lv { D with nx := fun ys' s' => r D ys' s' } hc hr ⟨fun q' H0' σ' H' z' sv' ys' l r' y => h2 q' H0' ip Px σ' H' z' sv' ys' c fs K J gd lv D hc r' (k.from l) y, k.bk, k.ct⟩ h)
theorem gv_plain (h : ∀ (B : Around) (s0 : Shared) (H0 : Hp), Room G.k B → VS (gx G.toGG B s0 H0) EF O O' OL st ms) : GV G O O' OL st (gPl ms) := fun q H0 ip Px σ H z sv ys c fs K J gd lv D hc hr k hm => by
  obtain ⟨t, p, f⟩ := h q.B (atL G.toGG q.s) H0 hr.ok.room
  let R : List Nat → (List DL.D → Ev → Prop) → L2.St → Hp → Prop := fun Oe w σ' H' => ∃ sv', SR G.K G.aS Oe ⟨fun b => q.A b ∨ Px b, none⟩ (bare O σ H) σ' H' sv' q.n ∧ w ys sv'
  let De : Ends := ⟨R O' D.nx, fun _ _ => False, R OL D.bk, R OL D.ct⟩
  have fit : ∀ {Oe : List Nat} {w : List DL.D → Ev → Prop} (σ' : L2.St) (H' : Hp) (s' : Ev) (n' : Nat), SR G.K G.aS Oe ⟨fun b => q.A b ∨ Px b, none⟩ (bare O σ H) σ' H' s' n' → (n' = q.n ∧ w ys s') → R Oe w σ' H' := fun σ' H' s' n' S ⟨e, y⟩ => ⟨s', e ▸ S, y⟩
  have ht : t De σ H := f G.aS ⟨fun b => q.A b ∨ Px b, none⟩ _ σ H sv q.n _ ⟨fun s' n' => n' = q.n ∧ D.nx ys s', fun _ _ => False, fun s' n' => n' = q.n ∧ D.bk ys s', fun s' n' => n' = q.n ∧ D.ct ys s'⟩ De hr.sr lx_no ⟨fit (w := D.nx), fun v H' d n' kp st r y => y, fit (w := D.bk), fit (w := D.ct)⟩ (hm q.n)
  refine sg_wrap ?_
  rw [hc.over]
  have w := wpAny_held (s := z) (p.run ip (mute z) σ H De (Inv.regens hr.inv (mute_bare hr.inv.bare)) ht)
  refine wpAny_mono w (fun fl z' y => ?_) fun e z' y => by obtain ⟨_, y, _⟩ := y; exact y.elim
  obtain ⟨s1, y, e, hs, hb⟩ := y.get
  have hb' : AllBare s1.gens → AllBare z'.gens := hb hr.inv.bare
  have re : ∀ {σ' : L2.St} {H' : Hp}, Inv (gx G.toGG q.B (atL G.toGG q.s) H0) ip σ' H' s1 → Inv (gx G.toGG q.B (atL G.toGG q.s) H0) ip σ' H' z' := fun I => by
    rw [e]
    exact Inv.regens I (hb' I.bare)
  cases fl with
  | next =>
    obtain ⟨σ', H', I, sv', S, y⟩ := y
    obtain ⟨r', l⟩ := hr.step (re I) S hs
    exact k.nx q H0 σ' H' z' sv' ys l r' y
  | brk =>
    obtain ⟨σ', H', I, sv', S, y⟩ := y
    obtain ⟨r', l⟩ := hr.step (re I) S hs
    exact k.bk q H0 σ' H' z' sv' ys l r' y
  | cont =>
    obtain ⟨σ', H', I, sv', S, y⟩ := y
    obtain ⟨r', l⟩ := hr.step (re I) S hs
    exact k.ct q H0 σ' H' z' sv' ys l r' y
  | ret u =>
    obtain ⟨_, _, _, _, _, y⟩ := y
    exact y.elim
end
end DL.GF
namespace DL.GF
open PySem PySem.Spec PyProof.Rows GenW L2
variable [TabC]
structure GT.Ok (G : GT) : Prop where
  fr : G.toGG.Ok
  go : ∀ h : Heap, h.get? G.a = some G.go → h.IsGen G.a G.g
  tabs : TabC.T = []
section
variable {G : GT} {q : WD} {H0 : Hp} {ip : List (Addr × Obj)} {Px : AS} {O O' OL : List Nat} {σ σ' : L2.St} {H H' : Hp} {z z' : Shared} {sv sv' : Ev} {e : Expr} {m : EM D} {mt : EM Bool}
/-- what is evaluated amid a stretch -/
theorem Run.held {α : Type} {t : Sem α} {R : α → Hp → Prop} (r : Run G q H0 ip Px O σ H z sv)
    (h : wpAny (model G.P G.w) (q.B.deeper G.env) t (fun a z' => ∃ H', Inv (gx G.toGG q.B (atL G.toGG q.s) H0) ip σ H' z' ∧ KpS G.aS H H' ∧ StA G.K G.aS H' q.n ∧ R a H') (fun _ _ => False) (mute z)) :
    wpAny (model G.P G.w) (q.B.deeper G.env) t (fun a z' => ∃ H', Run G q H0 ip Px O σ H' z' sv ∧ Lk G.g G.aS q O σ H z q O σ H' z' ∧ R a H') (fun _ _ => False) z := by
  refine wpAny_mono (wpAny_held h) (fun a z' y => ?_) fun _ _ y => by obtain ⟨_, y, _⟩ := y; exact y.elim
  obtain ⟨s1, ⟨H', I, kp, st, y⟩, e, hs, hb⟩ := y.get
  have I' : Inv (gx G.toGG q.B (atL G.toGG q.s) H0) ip σ H' z' := by
    rw [e]
    exact Inv.regens I (hb r.inv.bare I.bare)
  obtain ⟨r', l⟩ := r.step I' (r.sr.step kp st) hs
  exact ⟨H', r', l, y⟩
theorem Run.expr (h : VE (gx G.toGG q.B (atL G.toGG q.s) H0) EF O e m) (r : Run G q H0 ip Px O σ H z sv) {W : D → Prop} (hm : m (fun _ _ => False) sv q.n fun d n' => n' = q.n ∧ W d) :
    wpAny (model G.P G.w) (q.B.deeper G.env) (eval e G.env) (fun v z' => ∃ H', Run G q H0 ip Px O σ H' z' sv ∧ Lk G.g G.aS q O σ H z q O σ H' z' ∧ ∃ x d, RelV x v ∧ Rep G.K G.aS H' (AV G.aS (fun b => q.A b ∨ Px b) O σ) d x ∧ W d) (fun _ _ => False) z := by
  obtain ⟨mn, t, p, f⟩ := h
  refine r.held (R := fun v H' => ∃ x d, RelV x v ∧ Rep G.K G.aS H' (AV G.aS (fun b => q.A b ∨ Px b) O σ) d x ∧ W d) ?_
  refine wpAny_mono (p.run ip (mute z) σ H (fun x H' => KpS G.aS H H' ∧ StA G.K G.aS H' q.n ∧ ∃ d, Rep G.K G.aS H' (AV G.aS (fun b => q.A b ∨ Px b) O σ) d x ∧ W d) (Inv.regens r.inv (mute_bare r.inv.bare)) ?_) (fun v z' y => ?_) fun _ _ y => y
  · exact f G.aS ⟨fun b => q.A b ∨ Px b, none⟩ _ σ H sv q.n _ _ r.sr lx_no (mn _ _ _ _ _ (fun d n' ⟨e1, w⟩ x H' kp st rp => ⟨kp, e1 ▸ st, d, rp, w⟩) hm)
  · obtain ⟨x, H', I, rv, kp, st, d, rp, w⟩ := y
    exact ⟨H', I, kp, st, x, d, rv, rp, w⟩
theorem Run.test {c : Expr} (h : VT (gx G.toGG q.B (atL G.toGG q.s) H0) EF O c mt) (r : Run G q H0 ip Px O σ H z sv) {W : Bool → Prop} (hm : mt (fun _ _ => False) sv q.n fun d n' => n' = q.n ∧ W d) :
    wpAny (model G.P G.w) (q.B.deeper G.env) (isTrue c G.env (eval c G.env)) (fun b z' => ∃ H', Run G q H0 ip Px O σ H' z' sv ∧ Lk G.g G.aS q O σ H z q O σ H' z' ∧ W b) (fun _ _ => False) z := by
  obtain ⟨mn, t, p, f⟩ := h
  refine r.held (R := fun b _ => W b) ?_
  refine wpAny_mono (p.run ip (mute z) σ H (fun b H' => KpS G.aS H H' ∧ StA G.K G.aS H' q.n ∧ W b) (Inv.regens r.inv (mute_bare r.inv.bare)) ?_) (fun v z' y => ?_) fun _ _ y => y
  · exact f G.aS ⟨fun b => q.A b ∨ Px b, none⟩ _ σ H sv q.n _ _ r.sr lx_no (mn _ _ _ _ _ (fun d n' ⟨e1, w⟩ H' kp st => ⟨kp, e1 ▸ st, w⟩) hm)
  · obtain ⟨H', I, kp, st, w⟩ := y
    exact ⟨H', I, kp, st, w⟩
end
def gIf (t : EM Bool) (a b : GM) : GM := fun D ys s => ∀ n, t (fun _ _ => False) s n fun c n' => n' = n ∧ if c = true then a D ys s else b D ys s
def gWhileN (t : EM Bool) (a : GM) (D : GDE) : Nat → List DL.D → Ev → Prop
  | 0, _, _ => False
  | k + 1, ys, s => ∀ n, t (fun _ _ => False) s n fun c n' => n' = n ∧ if c = true then a { nx := fun ys' s' => gWhileN t a D k ys' s', ct := fun ys' s' => gWhileN t a D k ys' s', bk := D.nx } ys s else D.nx ys s
def gWhile (t : EM Bool) (a : GM) : GM := fun D ys s => ∃ k, gWhileN t a D k ys s
def gYield (m : EM D) : GM := fun D ys s => ∀ n, m (fun _ _ => False) s n fun d n' => n' = n ∧ ∃ ys', ys = d :: ys' ∧ D.nx ys' s
section
variable {G : GT} {O O1 O' OL : List Nat} {st : Stmt} {rest a b : List Stmt} {m r ma mb : GM} {ms : SM} {c : Expr} {mt : EM Bool} {pos : Pos}
theorem gv_if (hc : ∀ (B : Around) (s0 : Shared) (H0 : Hp), Room G.k B → VT (gx G.toGG B s0 H0) EF O c mt) (ha : GVs G O O' OL a ma) (hb : GVs G O O' OL b mb) : GV G O O' OL (.If c a b pos) (gIf mt ma mb) := fun q H0 ip Px σ H z sv ys cd fs K J gd lv D g hr k hm => by
  rw [exec_If]
  show Sg (model G.P G.w) q.B cd (.at pos fun _ => (isTrue c G.env (eval c G.env) >>= fun b => _).wrap K J gd lv) fs z (Post G ys q)
  refine sg_at (sg_bw ?_)
  rw [g.over]
  refine wpAny_mono (Run.test (hc _ _ _ hr.ok.room) hr (hm q.n)) (fun v z' y => ?_) fun _ _ y => y.elim
  obtain ⟨H', r', l, y⟩ := y
  cases v with
  | true => exact ha q H0 ip Px σ H' z' sv ys cd fs K J gd lv D g r' (k.from l) y
  | false => exact hb q H0 ip Px σ H' z' sv ys cd fs K J gd lv D g r' (k.from l) y
/-- a loop's code stands over the frame that it came from -/
theorem GC.loop {cd c' : Code} {fs : List Frame} {gd : Bool → Bool} {k : Result → Sem PySem.Fin} {l kp : List Value} {p : Pos} (g : GC G cd fs gd) (hw : c'.weight = 0) (hu : c'.cUnits = 0) : GC G c' (.ret k none (gd false) l cd p kp :: fs) id where
  over := fun B => (over_loop hw hu).trans (g.over B)
  split := by
    show (splitAtGen fs).map _ = none
    rw [g.split]
    rfl
  guard := by
    show (gd false || fs.any Frame.guarded) = false
    rw [g.gd, g.guard]
    rfl
  gd := rfl
theorem gv_while (hc : ∀ (B : Around) (s0 : Shared) (H0 : Hp), Room G.k B → VT (gx G.toGG B s0 H0) EF O c mt) (ha : GVs G O O O a ma) : GV G O O OL (.While c a [] pos) (gWhile mt ma) := fun q H0 ip Px σ H z sv ys cd fs K J gd lv D g hr k hm => by
  obtain ⟨j, hm⟩ := hm
  refine sg_while fun p => ?_
  have loop : ∀ (j : Nat) (q1 : WD) (H1 : Hp) (σ1 : L2.St) (Hc : Hp) (z1 : Shared) (s1 : Ev) (ys1 : List DL.D), Lk G.g G.aS q O σ H z q1 O σ1 Hc z1 → Run G q1 H1 ip Px O σ1 Hc z1 s1 → gWhileN mt ma D j ys1 s1 →
      Sg (model G.P G.w) q1.B (.whileLoop c a [] G.env) ((model G.P G.w).den (.whileLoop c a [] G.env)) (.ret (outOf G.env K J gd lv) none (gd false) (lv []) cd p [] :: fs) z1 (Post G ys1 q1) := by
    intro j
    induction j with
    | zero => exact fun _ _ _ _ _ _ _ _ _ y => y.elim
    | succ j ih =>
      intro q1 H1 σ1 Hc z1 s1 ys1 l1 r1 w1
      refine sg_whileTurn ?_
      rw [(g.loop (k := outOf G.env K J gd lv) (c' := .whileLoop c a [] G.env) rfl rfl).over]
      refine wpAny_mono (Run.test (hc _ _ _ r1.ok.room) r1 (w1 q1.n)) (fun v z2 y => ?_) fun _ _ y => y.elim
      obtain ⟨H2, r2, l2, y⟩ := y
      cases v with
      | true =>
        rw [if_pos rfl]
        refine ha q1 H1 ip Px σ1 H2 z2 s1 ys1 _ _ _ _ id id _ (g.loop rfl rfl) r2 ⟨fun q3 H3 σ3 Hd z3 s3 ys3 l3 r3 w3 => ?_, fun q3 H3 σ3 Hd z3 s3 ys3 l3 r3 w3 => ?_, fun q3 H3 σ3 Hd z3 s3 ys3 l3 r3 w3 => ?_⟩ y
        · exact sg_again rfl (ih q3 H3 σ3 Hd z3 s3 ys3 (l1.trans (l2.trans l3)) r3 w3)
        · exact sg_leaf (.ok .next) (k.nx q3 H3 σ3 Hd z3 s3 ys3 (l1.trans (l2.trans l3)) r3 w3)
        · exact sg_again rfl (ih q3 H3 σ3 Hd z3 s3 ys3 (l1.trans (l2.trans l3)) r3 w3)
      | false =>
        rw [if_neg Bool.false_ne_true]
        exact sg_nil (sg_leaf (.ok .next) (k.nx q1 H1 σ1 H2 z2 s1 ys1 (l1.trans l2) r2 y))
  exact loop j q H0 σ H z sv ys .refl hr hm
end
end DL.GF
namespace DL.GF
open PySem PySem.Spec PyProof.Rows GenW L2
variable [TabC]
section
variable {K : PySem.W.Frag} {aS : Addr} {H H' : Hp} {A A' : AS} {O : List Nat} {σ : L2.St} {sv : Ev} {n n' : Nat} {B B' Px : AS}
/-- what is not met stays as it is -/
theorem sub_kept (k : ∀ b u, H b = some u → ¬ A b → Kp1 u (H' b)) (t : ∀ b xs, H b = some (.tup xs) → H' b = some (.tup xs)) (av : ∀ b, A' b → A b ∨ H b = none) : Sub K H H' A A' := by
  have no : ∀ b u, H b = some u → ¬ A b → ¬ A' b := fun b u h hn y => (av b y).elim hn fun y => by rw [h] at y; cases y
  exact ⟨fun b xs h q => ⟨no b _ q h, k b (.lst xs) q h⟩, fun b xs q => q.elim (fun q => .inl (t b xs q)) .inr,
    fun b ys h q => q.elim (fun q => ⟨no b _ q h, .inl (k b (.dK ys) q h)⟩) fun ⟨o, q⟩ => ⟨no b _ q h, .inr ⟨o, k b (.frz o (.dK ys)) q h⟩⟩,
    fun b ys h q => q.elim (fun q => ⟨no b _ q h, .inl (k b (MD.MixO TabC.w b ys) q h)⟩) fun ⟨o, q⟩ => ⟨no b _ q h, .inr ⟨o, k b (.frz o (MD.MixO TabC.w b ys)) q h⟩⟩, fun b C dx ys h q => ⟨no b _ q h, k b (.ins C dx ys) q h⟩, fun b u hu h q => ⟨no b _ q h, Kp1.xo hu (k b u q h)⟩⟩
/-- the slots' view when others have done something -/
theorem SR.other (S : SR K aS O ⟨fun b => B b ∨ Px b, none⟩ (bare O σ H) σ H sv n) (k : ∀ b u, H b = some u → ¬ B b → Kp1 u (H' b)) (t : ∀ b xs, H b = some (.tup xs) → H' b = some (.tup xs)) (av : ∀ b, B' b → B b ∨ H b = none)
    (dom : ∀ b, B' b ∨ Px b → ∃ u, H' b = some u) (st : StA K aS H' n') : SR K aS O ⟨fun b => B' b ∨ Px b, none⟩ (bare O σ H') σ H' sv n' := by
  have avA : ∀ b, AV aS (fun b => B' b ∨ Px b) O σ b → AV aS (fun b => B b ∨ Px b) O σ b ∨ H b = none := fun b h => by
    rcases h with (h | h) | h | h
    · exact (av b h).imp (fun y => .inl (.inl y)) id
    · exact .inl (.inl (.inr h))
    · exact .inl (.inr (.inl h))
    · exact .inl (.inr (.inr h))
  have kA : ∀ b u, H b = some u → ¬ AV aS (fun b => B b ∨ Px b) O σ b → Kp1 u (H' b) := fun b u h hn => k b u h fun y => hn (.inl (.inl y))
  have S1 : Sub K H H' (AV aS (fun b => B b ∨ Px b) O σ) (AV aS (fun b => B' b ∨ Px b) O σ) := sub_kept kA t avA
  refine ⟨S.len, fun i d e hi => ?_, fun i hi => ?_, S.ds, fun b u h _ => .of (bare_some h), st, dom, fun _ _ y => nomatch y⟩
  · obtain ⟨v, e2, r⟩ := S.sh i d e hi
    exact ⟨v, e2, Rep.mono S1 d v r⟩
  · obtain ⟨d, a, e1, e2, e3, e4, e5, e6⟩ := S.ow i hi
    have some' : ∃ u, H a = some u := S.cn.dom a (.inr (.inr ⟨i, hi, e2⟩))
    have nB : ¬ B a := fun y => e4 (.inl y)
    refine ⟨d, a, e1, e2, bare_own ⟨i, hi, e2⟩, fun y => ?_, e5, ?_⟩
    · rcases y with y | y
      · rcases av a y with y | y
        · exact nB y
        · obtain ⟨u, hu⟩ := some'
          rw [hu] at y; cases y
      · exact e4 (.inr y)
    · cases d with
      | lst ds => obtain ⟨xs, e, q⟩ := e6; exact ⟨xs, k a _ e nB, RepL.mono S1 _ _ q⟩
      | dic ds => obtain ⟨xs, e, q⟩ := e6; exact ⟨xs, k a _ e nB, RepK.mono S1 _ _ q⟩
      | dmx ds => obtain ⟨xs, e, q⟩ := e6; exact ⟨xs, k a _ e nB, RepP.mono S1 _ _ q⟩
      | obj C ds => obtain ⟨dx, xs, e, q⟩ := e6; exact ⟨dx, xs, k a _ e nB, RepF.mono S1 _ _ q⟩
      | _ => exact e6.elim
end
section
variable {G : GT} {q q' : WD} {H0 : Hp} {ip : List (Addr × Obj)} {Px : AS} {O O' OL : List Nat} {σ σ' : L2.St} {H H' : Hp} {z z' : Shared} {sv sv' : Ev}
/-- what it holds when it falls asleep -/
def PrOf (G : GT) (ip : List (Addr × Obj)) (O : List Nat) (σ : L2.St) (Px : AS) : AS := fun b => Priv G.toGG ip b ∨ (∃ i, i ∈ O ∧ σ[i]? = some (some (.ref b))) ∨ Px b
theorem Run.new (r : Run G q H0 ip Px O σ H z sv) {b : Addr} (h : H b = none) : q.Pr b ∨ q.H b = none := by
  by_cases hp : q.Pr b
  · exact .inl hp
  · refine .inr (Option.eq_none_iff_forall_ne_some.mpr fun u hu => ?_)
    have hb : b ≠ G.aS := fun w => by
      obtain ⟨xs, hx⟩ := r.sr.st.lst
      rw [w, hx] at h
      cases h
    obtain ⟨v, hv⟩ := (r.kp b u hu hp hb).dom
    rw [hv] at h
    cases h
theorem Run.prNew (r : Run G q H0 ip Px O σ H z sv) {b : Addr} (h : PrOf G ip O σ Px b) : q.Pr b ∨ q.H b = none := by
  rcases h with h | ⟨i, hi, e⟩ | h
  · exact r.new (Inv.privs r.inv h).1
  · exact r.ow i b hi e
  · exact r.px b h
theorem Run.aft (ok : G.Ok) (r : Run G q H0 ip Px O σ H z sv) : Aft G q (PrOf G ip O σ Px) z (asleepH G.toGG ip z.heap H) where
  os := r.inv.os
  bare := r.inv.bare
  slp := r.slp
  un := by
    obtain ⟨ipw, e0, hx⟩ := r.ok.at0
    have U : Un (frs G.outer) [] H0 H (cut G.L q.s.heap) z.heap := r.inv.base
    rw [e0] at U
    exact un_asleep ok.fr r.inv r.ipL (fun b o h hn => not_young h hn) (un_awake r.ok.size hx U)
  hok := hok_asleep r.inv
  kp := fun b u h hp ha => (r.kp b u h hp ha).trans fun v hv => .of (asleep_some r.inv hv)
  st := r.sr.st.kp ⟨fun b u h => asleep_some r.inv h, fun b ps h => by
    by_cases hp : Priv G.toGG ip b
    · rw [asleep_priv hp] at h; cases h
    · rw [asleep_else hp] at h; exact h⟩
  new := fun b h => r.prNew h
  on := fun b h => by
    rcases h with h | h | h
    · exact ⟨_, asleep_priv h⟩
    · obtain ⟨u, hu⟩ := r.sr.cn.dom b (.inr (.inr h))
      exact ⟨u, asleep_some r.inv hu⟩
    · obtain ⟨u, hu⟩ := r.sr.cn.dom b (.inl (.inr h))
      exact ⟨u, asleep_some r.inv hu⟩
theorem Run.genAt (ok : G.Ok) (r : Run G q H0 ip Px O σ H z sv) : GenAt G (PrOf G ip O σ Px) (asleepH G.toGG ip z.heap H) := by
  have hp : Priv G.toGG ip G.a := .inr (.inr ⟨_, r.ga, rfl⟩)
  refine ⟨.inl hp, _, asleep_priv hp, fun h e => ok.go h ?_⟩
  have e : h.get? G.a = z.heap.get? G.a := e
  rw [e]
  exact (r.inv.pin (G.a, G.go) (List.mem_append_right _ r.ga)).1
/-- it wakes -/
theorem Run.wake (ok : G.Ok) (r : Run G q H0 ip Px O σ H z sv) (hp : q'.Pr = PrOf G ip O σ Px) (w : WOk G z.gens (asleepH G.toGG ip z.heap H) q.A q') :
    Run G q' (awakeH G.toGG ip q'.H) ip Px O σ (awakeH G.toGG ip q'.H) q'.s sv ∧ Lk G.g G.aS q O σ H z q' O σ (awakeH G.toGG ip q'.H) q'.s := by
  have nA : ∀ {b : Addr}, Priv G.toGG ip b → ¬ q.A b := fun h => r.noA (r.prNew (.inl h))
  have hx0 : ∀ b, Priv G.toGG ip b → q'.H b = some (.ext fun h1 => h1.get? b = z.heap.get? b) := fun b h => w.kept b _ (asleep_priv h) (nA h)
  have hx : ∀ b, Priv G.toGG ip b → ∃ φ, q'.H b = some (.ext φ) := fun b h => ⟨_, hx0 b h⟩
  have keep : ∀ b o, Priv G.toGG ip b → z.heap.get? b = some o → q'.s.heap.get? b = some o := fun b o h e => by
    obtain ⟨y, _⟩ := w.env.hok b _ (hx0 b h)
    have y : q'.s.heap.get? b = z.heap.get? b := y
    rw [y]
    exact e
  have hL : G.L ≤ q'.s.heap.objs.size := Nat.le_of_lt (w.env.hok.lt (hx0 _ (.inl rfl)))
  have np : ∀ {b : Addr} {u : HO}, H b = some u → ¬ Priv G.toGG ip b := fun h y => by rw [(Inv.privs r.inv y).1] at h; cases h
  have k : ∀ b u, H b = some u → ¬ q.A b → Kp1 u (awakeH G.toGG ip q'.H b) := fun b u h hn => by
    rw [awake_else (np h)]
    exact w.kept b u (asleep_some r.inv h) hn
  have t : ∀ b xs, H b = some (.tup xs) → awakeH G.toGG ip q'.H b = some (.tup xs) := fun b xs h => by
    rw [awake_else (np h)]
    exact w.tups b xs (asleep_some r.inv h)
  have av : ∀ b, q'.A b → q.A b ∨ H b = none := fun b h => (w.av b h).imp id fun y => Option.eq_none_iff_forall_ne_some.mpr fun u hu => by rw [asleep_some r.inv hu] at y; cases y
  have st : StA G.K G.aS (awakeH G.toGG ip q'.H) q'.n := by
    obtain ⟨a0, cs, i, g, m, d, e, h1, ⟨o, h2⟩, h3, h4, h5, h6, h7, h8, h9⟩ := w.st
    have al : ∀ {b : Addr} {u : HO}, q'.H b = some u → (∀ φ, u ≠ .ext φ) → awakeH G.toGG ip q'.H b = some u := fun {b u} y hu => by
      rw [awake_else fun y2 => ?_]
      · exact y
      · rw [hx0 b y2] at y
        exact hu _ (Option.some.inj y).symm
    refine ⟨a0, cs, i, g, m, d, al e (fun _ y => nomatch y), h1, ⟨o, al h2 fun _ y => nomatch y⟩, h3, h4, h5, h6, h7, h8, ⟨fun p hp => ?_, fun _ _ _ => trivial⟩⟩
    rw [ok.tabs] at hp
    exact nomatch hp
  have dom : ∀ b, q'.A b ∨ Px b → ∃ u, awakeH G.toGG ip q'.H b = some u := fun b h => by
    rcases h with h | h
    · obtain ⟨u, hu⟩ := w.dom b h
      rw [awake_else fun y => w.prA b (by rw [hp]; exact .inl y) h]
      exact ⟨u, hu⟩
    · obtain ⟨u, hu⟩ := r.sr.av b (.inr h)
      exact (k b u hu (r.noA (r.px b h))).dom
  refine ⟨⟨⟨w.room, w.aS, w.dom, w.prA, hL, ip, rfl, hx⟩, inv_wake ok.fr r.inv w.room.hd w.env hL hx keep, r.ipL, r.ga, SR.other r.sr k t av dom st, fun b u h hn ha => ?_, fun i b hi e => .inl (by rw [hp]; exact .inr (.inl ⟨i, hi, e⟩)), fun b h => .inl (by rw [hp]; exact .inr (.inr h)), Slp.refl _, w.gsz⟩,
    ⟨fun b u h hn => k b u h fun y => hn (.inl y), t, fun b h => ?_, w.slp⟩⟩
  · rw [awake_else fun y => hn (by rw [hp]; exact .inl y)]
    exact .of h
  · rcases h with h | h | h
    · exact (av b h).imp .inl id
    · exact .inl (.inr (.inl h))
    · exact .inl (.inr (.inr h))
/-- an item as others see it -/
theorem Run.rep (r : Run G q H0 ip Px O σ H z sv) {d : D} {x : V} (h : Rep G.K G.aS H (AV G.aS (fun b => q.A b ∨ Px b) O σ) d x) : Rep G.K G.aS (asleepH G.toGG ip z.heap H) (fun b => q.A b ∨ PrOf G ip O σ Px b) d x := by
  refine Rep.mono (sub_kept (fun b u h _ => .of (asleep_some r.inv h)) (fun b xs h => asleep_some r.inv h) fun b h => ?_) d x h
  rcases h with h | h | h | h
  · exact .inl (.inl (.inl h))
  · exact .inr (Inv.privs r.inv h).1
  · exact .inl (.inr (.inr h))
  · exact .inl (.inl (.inr h))
end
section
variable {G : GT} {O O' OL : List Nat} {e : Expr} {m : EM D} {yp pos : Pos}
theorem gv_yield (ok : G.Ok) (h : ∀ (B : Around) (s0 : Shared) (H0 : Hp), Room G.k B → VE (gx G.toGG B s0 H0) EF O e m) (hco : G.env.scope.isCoroutine = false := by rfl) (hi : interactive G.env = false := by rfl) : GV G O O OL (.Expr (.Yield (some e) yp) pos) (gYield m) :=
  fun q H0 ip Px σ H z sv ys c fs K J gd lv D g hr k hm => by
  refine sg_exprYield g.split ?_ hco hi
  rw [g.over]
  refine wpAny_mono (Run.expr (h _ _ _ hr.ok.room) hr (hm q.n)) (fun v z' y => ?_) fun _ _ y => y.elim
  obtain ⟨H', r', l, x, d, rv, rp, ys', ey, hn⟩ := y
  subst ey
  intro p kk hk
  rw [g.gd]
  refine ⟨?_, v, lv [], kk, c, p, fs, x, _, _, rfl, r'.aft ok, r'.genAt ok, rv, r'.rep rp, ?_⟩
  · show (!(false || fs.any Frame.guarded)) = true
    rw [g.guard]
    rfl
  · rw [sleep_iff]
    intro q' hp w
    obtain ⟨r2, l2⟩ := r'.wake ok hp w
    exact hk _ _ _ (k.nx q' _ σ _ q'.s sv ys' (l.trans l2) r2 hn)
end
end DL.GF
/-! those who ask a generator for the next thing -/
namespace DL.GF
open PySem PySem.Spec PyProof.Rows GenW L2
variable [TabC]
/-- the generator that X made -/
def mkG (X : Cx) (N : List Str) (env : Env) (k : Nat) (aS a : Addr) (g : Nat) (go : Obj) : GT := ⟨⟨X.prog, X.w, X.K, X.mg, X.base, N, env, X.stack, k⟩, aS, a, g, go⟩
/-- X's frame is older -/
structure Elder (X : Cx) (pins : List (Addr × Obj)) (L : Addr) : Prop where
  young : X.s_0.heap.objs.size ≤ L
  locals : X.env.locals < L
  cells : ∀ x c, X.env.cells.lookup x = some c → c < L
  pins : ∀ p ∈ X.pn ++ pins, p.1 < L
/-- behind a stretch, for the one who asked -/
structure Af (K : PySem.W.Frag) (aS : Addr) (H : Hp) (Pr : AS) (n : Nat) (Pr' : AS) (H' : Hp) : Prop where
  kp : ∀ b u, H b = some u → ¬ Pr b → b ≠ aS → Kp1 u (H' b)
  tups : ∀ b xs, H b = some (.tup xs) → H' b = some (.tup xs)
  st : StA K aS H' n
  new : ∀ b, Pr' b → Pr b ∨ H b = none
  on : ∀ b, Pr' b → ∃ u, H' b = some u
def NextR (X : Cx) (G : GT) (pins : List (Addr × Obj)) (σ : L2.St) (H : Hp) (A Pr : AS) (n : Nat) (s : Shared) : List D → Option Value → Shared → Prop
  | [], r, z => r = none ∧ ∃ H', Inv X pins σ H' z ∧ Af G.K G.aS H Pr n (fun _ => False) H' ∧ Slp (fun i => i < G.g) s.gens z.gens
  | d :: ys, r, z => ∃ v x H' Pr' gs' Gl', r = some v ∧ RelV x v ∧ Inv X pins σ H' z ∧ z.gens[G.g]? = some gs' ∧ asleep gs' = true ∧ Rep G.K G.aS H' (fun b => A b ∨ Pr' b) d x ∧ Sleep G ys gs' Gl' H' A Pr' ∧ Slp (fun i => G.g < i) Gl' z.gens ∧ GenAt G Pr' H' ∧ Af G.K G.aS H Pr n Pr' H' ∧ Slp (fun i => i < G.g) s.gens z.gens
theorem next_gen {X : Cx} {pins : List (Addr × Obj)} {σ : L2.St} {H Hl : Hp} {s : Shared} {N : List Str} {env : Env} {k : Nat} {aS a : Addr} {g : Nat} {go : Obj} {ys : List DL.D} {gs : GenState} {Gl : Array GenState} {Al A Pr : AS} {n : Nat} {E : Value → Shared → Prop}
    (el : Elder X pins env.locals) (I : Inv X pins σ H s) (room : Room (k + 1) X.A) (hg : s.gens[g]? = some gs) (ha : s.heap.IsGen a g) (sl : Sleep (mkG X N env k aS a g go) ys gs Gl Hl Al Pr)
    (w : WOk (mkG X N env k aS a g go) Gl Hl Al ⟨X.A.in1, s.setGen g .running, H, A, Pr, n⟩) : wpAny (model X.prog X.w) X.A (pyNext (.ref a)) (NextR X (mkG X N env k aS a g go) pins σ H A Pr n s ys) E s := by
  have wk := sleep_iff.mp sl _ rfl w
  have hgl : g < s.gens.size := (Array.getElem?_eq_some_iff.mp hg).1
  have hch : ∀ b ∈ young env.locals s.heap, (b ∈ X.ex ∨ X.s_0.heap.objs.size ≤ b) ∧ b ≠ X.env.locals ∧ (∀ x c, X.env.cells.lookup x = some c → c ≠ b) ∧ ∀ p ∈ X.pn ++ pins, p.1 ≠ b := fun b hb => by
    have hb := (mem_young.mp hb).2
    exact ⟨.inr (Nat.le_trans el.young hb), Nat.ne_of_gt (Nat.lt_of_lt_of_le el.locals hb), fun x c e => Nat.ne_of_lt (Nat.lt_of_lt_of_le (el.cells x c e) hb), fun p hp => Nat.ne_of_lt (Nat.lt_of_lt_of_le (el.pins p hp) hb)⟩
  have af : ∀ {Pr' : AS} {H' : Hp} {z z' : Shared} {y : GenState}, Aft (mkG X N env k aS a g go) ⟨X.A.in1, s.setGen g .running, H, A, Pr, n⟩ Pr' z H' → z'.gens = (z.setGen g y).gens → Af X.K aS H Pr n Pr' H' ∧ Slp (fun i => i < g) s.gens z'.gens := fun {Pr' H' z z' y} f e => by
    refine ⟨⟨f.kp, f.un.tups, f.st, f.new, f.on⟩, ?_⟩
    rw [e]
    exact (f.slp.unset (Nat.lt_irrefl _)).set (Nat.lt_irrefl _)
  refine next_wakes room.hd I.nolimit room.depth ha hg wk fun e z hz => ?_
  cases ys with
  | nil =>
    obtain ⟨rfl, H', f⟩ := hz
    refine ⟨rfl, .inl rfl, fun h' hk => ⟨rfl, H', ?_, af (y := .finished) f rfl⟩⟩
    exact I.call' (s' := { z.setGen g .finished with heap := h' }) f.os (Un.trans f.un (Un.kept hk)) (f.hok.kept hk) (allBare_setGen f.bare rfl) hch
  | cons d ys =>
    obtain ⟨hq, v, l, kk, c, p, fs, x, H', Pr', rfl, f, ga, rv, rp, sl'⟩ := hz
    have hz : g < z.gens.size := by
      have := f.slp.size
      rw [show (s.setGen g .running).gens.size = s.gens.size from setGen_size _ _ _] at this
      exact Nat.lt_of_lt_of_le hgl this
    refine ⟨hq, v, x, H', Pr', _, z.gens, rfl, rv, ?_, setGen_at hz, rfl, rp, sl', (Slp.refl z.gens).set (Nat.lt_irrefl _), ga, af f rfl⟩
    exact I.call' (s' := z.setGen g _) f.os f.un f.hok (allBare_setGen f.bare (End.bare_of_quiet hq)) hch
section
variable {K : PySem.W.Frag} {aS : Addr} {H H' : Hp} {O : List Nat} {σ : L2.St} {sv : Ev} {n n' g : Nat} {A0 A1 Pr Pr' : AS} {z0 : Option Addr} {s z : Shared} {d : D} {x : V}
def cat (A0 : A0T) (Pr : AS) : A0T := ⟨fun b => A0.p b ∨ Pr b, A0.z⟩
theorem av_cat {A0 : A0T} : AV aS (cat A0 Pr) O σ = fun b => AV aS A0 O σ b ∨ Pr b := by
  funext b
  refine propext ⟨fun h => ?_, fun h => ?_⟩
  · rcases h with (h | h) | h | h
    · exact .inl (.inl h)
    · exact .inr h
    · exact .inl (.inr (.inl h))
    · exact .inl (.inr (.inr h))
  · rcases h with (h | h | h) | h
    · exact .inl (.inl h)
    · exact .inr (.inl h)
    · exact .inr (.inr h)
    · exact .inl (.inr h)
/-- the slots' view behind a stretch of a generator -/
theorem SR.after {A0 : A0T} (S : SR K aS O (cat A0 Pr) (bare O σ H) σ H sv n) (f : Af K aS H Pr n' Pr' H') (prA : ∀ b, Pr b → ¬ A0.p b) : SR K aS O (cat A0 Pr') (bare O σ H') σ H' sv n' := by
  have av : ∀ b, AV aS (cat A0 Pr') O σ b → AV aS (cat A0 Pr) O σ b ∨ H b = none := fun b h => by
    rw [av_cat] at h ⊢
    rcases h with h | h
    · exact .inl (.inl h)
    · exact (f.new b h).imp .inr id
  have k : ∀ b u, H b = some u → ¬ AV aS (cat A0 Pr) O σ b → Kp1 u (H' b) := fun b u h hn => f.kp b u h (fun y => hn (.inl (.inr y))) fun y => hn (.inr (.inl y))
  have S1 : Sub K H H' (AV aS (cat A0 Pr) O σ) (AV aS (cat A0 Pr') O σ) := sub_kept k f.tups av
  refine ⟨S.len, fun i d e hi => ?_, fun i hi => ?_, S.ds, fun b u h _ => .of (bare_some h), f.st, fun b h => ?_, S.pn⟩
  · obtain ⟨v, e2, r⟩ := S.sh i d e hi
    exact ⟨v, e2, Rep.mono S1 d v r⟩
  · obtain ⟨d, a, e1, e2, e3, e4, e5, e6⟩ := S.ow i hi
    obtain ⟨u0, hu0⟩ := S.cn.dom a (.inr (.inr ⟨i, hi, e2⟩))
    have nP : ¬ Pr a := fun y => e4 (.inr y)
    refine ⟨d, a, e1, e2, bare_own ⟨i, hi, e2⟩, fun y => ?_, e5, ?_⟩
    · rcases y with y | y
      · exact e4 (.inl y)
      · rcases f.new a y with y | y
        · exact nP y
        · rw [hu0] at y; cases y
    · cases d with
      | lst ds => obtain ⟨xs, e, q⟩ := e6; exact ⟨xs, f.kp a _ e nP e5, RepL.mono S1 _ _ q⟩
      | dic ds => obtain ⟨xs, e, q⟩ := e6; exact ⟨xs, f.kp a _ e nP e5, RepK.mono S1 _ _ q⟩
      | dmx ds => obtain ⟨xs, e, q⟩ := e6; exact ⟨xs, f.kp a _ e nP e5, RepP.mono S1 _ _ q⟩
      | obj C ds => obtain ⟨dx, xs, e, q⟩ := e6; exact ⟨dx, xs, f.kp a _ e nP e5, RepF.mono S1 _ _ q⟩
      | _ => exact e6.elim
  · rcases h with h | h
    · obtain ⟨u, hu⟩ := S.av b (.inl h)
      by_cases hb : b = aS
      · obtain ⟨xs, hx⟩ := f.st.lst
        exact ⟨_, hb ▸ hx⟩
      · exact (f.kp b u hu (fun y => prA b y h) hb).dom
    · exact f.on b h
/-- less is kept for oneself -/
theorem SR.less {A0 A1 : A0T} {H0 : Hp} (S : SR K aS O A0 H0 σ H sv n) (h : ∀ b, A1.p b → A0.p b) (hz : A1.z = A0.z) : SR K aS O A1 H0 σ H sv n := by
  have le : ∀ b, AV aS A1 O σ b → AV aS A0 O σ b := fun b y => y.imp (h b) id
  refine ⟨S.len, fun i d e hi => ?_, fun i hi => ?_, S.ds, S.fr, S.st, fun b y => S.av b (h b y), fun y => hz ▸ S.pn y⟩
  · obtain ⟨v, e2, r⟩ := S.sh i d e hi
    exact ⟨v, e2, Rep.mono (sub_le le) d v r⟩
  · obtain ⟨d, a, e1, e2, e3, e4, e5, e6⟩ := S.ow i hi
    exact ⟨d, a, e1, e2, e3, fun y => e4 (h a y), e5, e6.mono le⟩
end
end DL.GF
/-! a generator def's call -/
namespace DL.GF
open PySem PySem.Spec PyProof.Rows GenW L2
variable [TabC]
abbrev genT (P : Program) (w : World) (K : PySem.W.Frag) (mg : Str → Option Value) (base : Heap) (N : List Str) (qual : Str) (scope : Scope) (k : Nat) (f : Addr) (cdv : Value) (outer : List Env) (L aS a : Addr) (g : Nat) (go : Obj) : GT := ⟨⟨P, w, K, mg, base, N, envOfC qual scope L f cdv, outer, k⟩, aS, a, g, go⟩
def GBody (P : Program) (w : World) (K : PySem.W.Frag) (mg : Str → Option Value) (base : Heap) (N : List Str) (qual : Str) (scope : Scope) (k : Nat) (O' : List Nat) (body : List Stmt) (m : GM) : Prop :=
  ∀ (f : Addr) (cdv : Value) (outer : List Env) (L aS a : Addr) (g : Nat) (go : Obj), (genT P w K mg base N qual scope k f cdv outer L aS a g go).Ok → GVs (genT P w K mg base N qual scope k f cdv outer L aS a g go) [] O' [] body m
def none0 : AS := fun _ => False
/-- what a call gives: a generator that has not begun -/
def Made (P : Program) (w : World) (K : PySem.W.Frag) (mg : Str → Option Value) (base : Heap) (k : Nat) (outer : List Env) (aS : Addr) (H : Hp) (A : AS) (ys : List DL.D) (s : Shared) (u : Value) (s' : Shared) : Prop :=
  ∃ (N : List Str) (env : Env) (a : Addr) (go : Obj) (c : Code) (H' : Hp) (Pr : AS), u = .ref a ∧ env.locals = s.heap.objs.size ∧ s'.os = s.os ∧ AllBare s'.gens ∧ (∀ b o, s.heap.get? b = some o → s'.heap.get? b = some o) ∧ s'.gens = s.gens.push (.fresh c) ∧
    HOk P w H' s'.heap ∧ (∀ b u, H b = some u → H' b = some u) ∧ (∀ b ps, H' b = some (.tbl ps) → H b = some (.tbl ps)) ∧ (∀ b, Pr b → s.heap.objs.size ≤ b) ∧ (∀ b, H b = none → b < s.heap.objs.size → H' b = none) ∧ (∀ b, Pr b → ∃ u, H' b = some u) ∧
    Sleep ⟨⟨P, w, K, mg, base, N, env, outer, k⟩, aS, a, s.gens.size, go⟩ ys (.fresh c) s'.gens H' A Pr ∧ GenAt ⟨⟨P, w, K, mg, base, N, env, outer, k⟩, aS, a, s.gens.size, go⟩ Pr H'
section
variable {G : GT} {q : WD} {H0 : Hp} {ip : List (Addr × Obj)} {Px : AS} {O : List Nat} {σ : L2.St} {H : Hp} {z : Shared} {sv : Ev}
theorem Run.done (r : Run G q H0 ip Px O σ H z sv) : Aft G q (fun _ => False) z H where
  os := r.inv.os
  bare := r.inv.bare
  slp := r.slp
  un := by
    obtain ⟨ipw, e0, hx⟩ := r.ok.at0
    have U : Un (frs G.outer) [] H0 H (cut G.L q.s.heap) z.heap := r.inv.base
    rw [e0] at U
    exact un_awake r.ok.size hx U
  hok := r.inv.hok
  kp := r.kp
  st := r.sr.st
  new := fun _ y => y.elim
  on := fun _ y => y.elim
end
theorem awake_asleep {G : GG} {ip : List (Addr × Obj)} {h : Heap} {H : Hp} (hn : ∀ b, Priv G ip b → H b = none) : awakeH G ip (asleepH G ip h H) = H := by
  funext b
  by_cases hb : Priv G ip b
  · rw [awake_priv hb, hn b hb]
  · rw [awake_else hb, asleep_else hb]
theorem gmade {P : Program} {w : World} {K : PySem.W.Frag} {mg : Str → Option Value} {base : Heap} {x : Str} {params : Arguments} {body : List Stmt} {scope : Scope} {f : Addr} {fd : FuncData} {N ps : List Str} {k : Nat} {m : GM} {O' : List Nat} (hT : TabC.T = [])
    (F : FunD K x x params body scope [] [] f fd) (Sc : GScope N ps scope) (Bd : GBody P w K mg base N x scope k O' body m) {ds : List DL.D} {ys : List DL.D} (hm : m { nx := fun r _ => r = [] } ys (startD N ds))
    {B : Around} {outer : List Env} {s : Shared} {H : Hp} {args : Args} {us : List Value} {vs : List V} {aS : Addr} {A : AS} {n : Nat} (hr : Room k B) (e0 : Env0 P w K mg base B outer s H) (hb : BindsTo s fd args (ps.zip us)) (hl : vs.length = ps.length) (rv : Vals vs us)
    (rp : RepL K aS H A ds vs) (st : StA K aS H n) (hA : A aS) (dom : ∀ b, A b → ∃ u, H b = some u) :
    codeAny (model P w) B (.call (.ref f) args) (fun r s' => match r with
      | .ok (.ret u) => Made P w K mg base k outer aS H A ys s u s'
      | _ => False) s := by
  obtain ⟨oc, od, dV, kV, doc, pm, an, cdv, ct, osl, rfl, lk, hcd, _, _⟩ := F.ex
  have kin : K.In s.heap := e0.mod.kin.keeps fun b o e => (e0.bs b o e).1
  have lim : s.heap.NoLimit := e0.mod.nolimit.keeps fun b o e => (e0.bs b o e).1
  have kinds : ∀ y ∈ ps.zip us, scope.names.lookup y.1 = some .local ∨ (scope.names.lookup y.1 = some .cell ∧ ((cellsFrom (s.heap.objs.size + 1) scope.names []).lookup y.1).isSome = true) := fun y hy => by
    rcases Sc.par y.1 (List.of_mem_zip (show (y.1, y.2) ∈ ps.zip us from hy)).1 with e | e
    · exact .inl e
    · exact .inr ⟨e, PySem.W.cellsFrom_some _ _ _ (.inl e)⟩
  refine codeAny_call_generator hr.depth (kin _ _ lk) rfl Sc.co Sc.gen rfl (PySem.W.codeRec_of kin hcd) ?_
  refine hb _ _ _ _ (wpAny_newFunctionEnv_cells Sc.kind kinds fun env he s1 ic => ?_)
  subst he
  obtain ⟨h1, tk, es1, hk1⟩ := ic.done
  have ge : s1.gens = s.gens := by rw [es1]
  have oe : s1.os = s.os := by rw [es1]
  have kept1 : ∀ b o, s.heap.get? b = some o → s1.heap.get? b = some o := ic.toInCall.keep
  refine ⟨lim.keeps kept1, ?_⟩
  have main : ∀ (go : Obj) (nm qn : Value) (t2 : Nat), go.cls = .type "generator" → go.data = .fields #[.int s1.gens.size 0, nm, qn] → go.slots = #[] → (∀ h : Heap, (h.push go).get? h.objs.size = some go) →
      Made P w K mg base k outer aS H A ys s (.ref s1.heap.objs.size) { s1 with gens := s1.gens.push (.fresh (.func body (envOfC x scope s.heap.objs.size f cdv))), toks := t2, heap := s1.heap.push go } := by
    intro go nm qn t2 g1 g2 g3 g4
    generalize es' : ({ s1 with gens := s1.gens.push (.fresh (.func body (envOfC x scope s.heap.objs.size f cdv))), toks := t2, heap := s1.heap.push go } : Shared) = s'
    have hh' : s'.heap = s1.heap.push go := by rw [← es']
    have hg' : s'.gens = s.gens.push (.fresh (.func body (envOfC x scope s.heap.objs.size f cdv))) := by rw [← es', ← ge]
    have ho' : s'.os = s.os := by rw [← es']; exact oe
    have kept2 : ∀ b o, s1.heap.get? b = some o → s'.heap.get? b = some o := fun b o e => by rw [hh']; exact Heap.get?_push_of_some _ e
    have kept : ∀ b o, s.heap.get? b = some o → s'.heap.get? b = some o := fun b o e => kept2 b o (kept1 b o e)
    have bare' : AllBare s'.gens := by rw [hg']; exact AllBare.push e0.bare rfl
    have I1 := inv_startG (E := EF) Sc hr.hd e0 hl rv ic
    have lt1 : s.heap.objs.size < s1.heap.objs.size := ic.toInCall.ns.lt
    let G : GT := genT P w K mg base N x scope k f cdv outer s.heap.objs.size aS s1.heap.objs.size s.gens.size go
    let ip : List (Addr × Obj) := [(s1.heap.objs.size, go)]
    have ha' : s'.heap.get? s1.heap.objs.size = some go := by rw [hh']; exact g4 _
    have fok : G.toGG.Ok := ⟨e0.mod, Sc.kind, rfl, rfl, rfl, I1.ok.inj, I1.ok.has, fun y c e => I1.ok.cab y c rfl e, e0.bsz, fun b hb => by
      obtain ⟨_, o, ho, _⟩ := e0.funs.mem hb
      exact Heap.lt_size ho⟩
    have ok : G.Ok := ⟨fok, fun h e => ⟨go, nm, qn, e, g1, by rw [g2, ge], g3⟩, hT⟩
    have I0 : Inv (gx G.toGG B (atL G.toGG s) H) ip (L2.start N vs) H s' := by
      refine ⟨gx_ok fok hr.hd e0 (Nat.le_refl _) fun b y => y, ho', bare', ?_, ?_, fun y c e => ?_, I1.free, I1.freeC, fun p hp => ?_, I1.hok.kept kept2, I1.len⟩
      · exact ⟨fun b o e _ _ _ => kept b o (cut_some (Nat.le_refl _) e).2, fun b o e _ _ _ => ⟨o.slots, kept b o (cut_some (Nat.le_refl _) e).2⟩, fun _ _ _ n _ => n, fun b o e _ => ⟨o, kept b o (cut_some (Nat.le_refl _) e).2⟩, fun _ _ e => e, fun _ _ _ e => e, fun _ ps e => ⟨#[], by rw [Array.append_empty]; exact e⟩⟩
      · obtain ⟨mm, ⟨o, es, ep, ho, r⟩, hl⟩ := I1.loc
        refine ⟨mm, ⟨o, es, ep, kept2 _ o ho, r⟩, fun i y v e1 e2 e3 => ?_⟩
        obtain ⟨u, ru, lk⟩ := hl i y v e1 e2 e3
        refine ⟨u, ru, ?_⟩
        rcases lk with lk | ⟨kk, c, hc, ob, eb, db⟩
        · exact .inl lk
        · exact .inr ⟨kk, c, hc, ob, kept2 c ob eb, db⟩
      · obtain ⟨v, ob, eb, db⟩ := I1.cell y c e
        exact ⟨v, ob, kept2 c ob eb, db⟩
      · have hp : p = (s1.heap.objs.size, go) := by
          rcases List.mem_append.mp hp with y | y
          · exact nomatch y
          · exact List.mem_singleton.mp y
        subst hp
        exact ⟨ha', I1.hok.fresh (Nat.le_refl _), Nat.ne_of_gt lt1, I1.nofs (Nat.le_refl _), fun v e => by rw [g2] at e; cases e⟩
    have hn : ∀ b, Priv G.toGG ip b → H b = none := fun b h => (Inv.privs I0 h).1
    have old : ∀ b, Priv G.toGG ip b → s.heap.objs.size ≤ b := fun b h => by
      rcases h with h | ⟨y, h⟩ | ⟨p, hp, h⟩
      · exact Nat.le_of_eq h.symm
      · exact fok.cab y b h
      · rw [List.mem_singleton.mp hp] at h
        exact h ▸ Nat.le_of_lt lt1
    have e1 : Env0 P w K mg base B outer s' (asleepH G.toGG ip s'.heap H) := by
      have el : ∀ b, b < s.heap.objs.size → asleepH G.toGG ip s'.heap H b = H b := fun b hb => asleep_else fun y => absurd (old b y) (Nat.not_le.mpr hb)
      refine ⟨e0.frames, e0.mod, fun b o e => ?_, Nat.le_trans e0.bsz (Nat.le_trans (Nat.le_of_lt lt1) ?_), e0.funs.of_keeps fun b o e _ => ⟨o, kept b o e, rfl⟩, fun b hb => ?_, hok_asleep I0, bare'⟩
      · obtain ⟨y1, y2⟩ := e0.bs b o e
        exact ⟨kept b o y1, (el b (Heap.lt_size y1)).trans y2⟩
      · rw [hh', Heap.size_push]
        exact Nat.le_succ _
      · obtain ⟨_, o, ho, _⟩ := e0.funs.mem hb
        exact (el b (Heap.lt_size ho)).trans (e0.frf b hb)
    let q0 : WD := ⟨B, s', asleepH G.toGG ip s'.heap H, A, Priv G.toGG ip, n⟩
    have hw : awakeH G.toGG ip (asleepH G.toGG ip s'.heap H) = H := awake_asleep hn
    have hL' : G.L ≤ s'.heap.objs.size := by
      rw [hh', Heap.size_push]
      exact Nat.le_succ_of_le (Nat.le_of_lt lt1)
    have hx : ∀ b, Priv G.toGG ip b → ∃ φ, asleepH G.toGG ip s'.heap H b = some (.ext φ) := fun b h => ⟨_, asleep_priv h⟩
    have Iw := inv_wake (B := B) fok I0 hr.hd e1 hL' hx fun b o _ e => e
    have r0 : Run G q0 (awakeH G.toGG ip (asleepH G.toGG ip s'.heap H)) ip none0 [] (L2.start N vs) (awakeH G.toGG ip (asleepH G.toGG ip s'.heap H)) s' (startD N ds) := by
      refine ⟨⟨hr, hA, fun b h => ?_, fun b h y => ?_, hL', ip, rfl, hx⟩, Iw, fun p hp => ?_, List.mem_singleton.mpr rfl, ?_, fun b u h hp _ => ?_, fun i b hi _ => (nomatch hi), fun b h => h.elim, Slp.refl _, ?_⟩
      · obtain ⟨u, hu⟩ := dom b h
        exact ⟨u, asleep_some I0 hu⟩
      · obtain ⟨u, hu⟩ := dom b y
        rw [hn b h] at hu; cases hu
      · rw [List.mem_singleton.mp hp]
        exact Nat.le_of_lt lt1
      · rw [hw]
        have S := (SR.start (N := N) (A0 := A) (by rw [AV.of hA]; exact rp) st dom).base
        exact SR.less (A0 := ⟨A, none⟩) S (fun b y => y.elim id fun y => y.elim) rfl
      · rw [awake_else hp]
        exact .of h
      · rw [hg', Array.size_push]
        exact Nat.lt_succ_self _
    have hpr : PrOf G ip [] (L2.start N vs) none0 = Priv G.toGG ip := by
      funext b
      exact propext ⟨fun y => y.elim id fun y => y.elim (fun ⟨i, hi, _⟩ => nomatch hi) fun y => y.elim, fun y => .inl y⟩
    have hs0 : asleepH G.toGG ip s'.heap (awakeH G.toGG ip (asleepH G.toGG ip s'.heap H)) = asleepH G.toGG ip s'.heap H := by rw [hw]
    refine ⟨N, G.env, s1.heap.objs.size, go, _, asleepH G.toGG ip s'.heap H, Priv G.toGG ip, rfl, rfl, ho', bare', kept, hg', hok_asleep I0, fun b u e => asleep_some I0 e, fun b ps e => ?_, old, fun b e hb => ?_, fun b h => ⟨_, asleep_priv h⟩, ?_, ?_⟩
    · by_cases h : Priv G.toGG ip b
      · rw [asleep_priv h] at e; cases e
      · rw [asleep_else h] at e; exact e
    · rw [asleep_else fun y => absurd (old b y) (Nat.not_le.mpr hb)]
      exact e
    · refine sleep_iff.mpr fun q hp wk => ?_
      obtain ⟨r1, _⟩ := r0.wake ok (by rw [hpr]; exact hp) (by rw [hs0]; exact wk)
      refine sg_func (Bd f cdv outer _ aS _ _ go ok q _ ip none0 _ _ q.s _ ys _ [] _ _ id id { nx := fun r _ => r = [] } ⟨fun _ => over_func, rfl, rfl, rfl⟩ r1 ⟨fun q' H0' σ' H' z' sv' ys' _ r' e => ?_, fun _ _ _ _ _ _ _ _ _ y => y.elim, fun _ _ _ _ _ _ _ _ _ y => y.elim⟩ hm)
      subst e
      exact sg_end (.ok (.ret .none)) ⟨rfl, _, r'.done⟩
    · have := r0.genAt ok
      rw [hpr, hs0] at this
      exact this
  exact main _ _ _ _ rfl rfl rfl fun h => Heap.get?_push_size _ rfl
end DL.GF
/-! for x in g(..) in a def -/
namespace DL.GF
open PySem PySem.Spec PyProof.Rows GenW L2
variable [TabC]
/-- a generator def by its name: what a call will hand out -/
def GGn (P : Program) (w : World) (K : PySem.W.Frag) (mg : Str → Option Value) (base : Heap) (x : Str) (k : Nat) (ps : List Str) (gf : List DL.D → List DL.D → Prop) : Prop := ∃ f fd, mg x = some (.ref f) ∧ PySem.W.keepIn K (.ref f) = true ∧ Binds K fd ps [] ∧
  ∀ (ds ys : List DL.D), ds.length = ps.length → gf ds ys → ∀ (B : Around) (outer : List Env) (s : Shared) (H : Hp) (args : Args) (us : List Value) (vs : List V) (aS : Addr) (A : AS) (n : Nat), Room k B → Env0 P w K mg base B outer s H → BindsTo s fd args (ps.zip us) → vs.length = ps.length → Vals vs us →
    RepL K aS H A ds vs → StA K aS H n → A aS → (∀ b, A b → ∃ u, H b = some u) → codeAny (model P w) B (.call (.ref f) args) (fun r s' => match r with
      | .ok (.ret u) => Made P w K mg base k outer aS H A ys s u s'
      | _ => False) s
theorem ggn {P : Program} {w : World} {K : PySem.W.Frag} {mg : Str → Option Value} {base : Heap} {x : Str} {params : Arguments} {body : List Stmt} {scope : Scope} {f : Addr} {fd : FuncData} {N ps : List Str} {k : Nat} {m : GM} {O' : List Nat} {gf : List DL.D → List DL.D → Prop} (hT : TabC.T = [])
    (F : FunD K x x params body scope [] [] f fd) (hg : mg x = some (.ref f)) (Sc : GScope N ps scope) (hb : BindOk x params body scope ps) (Bd : GBody P w K mg base N x scope k O' body m)
    (hm : ∀ ds ys, ds.length = ps.length → gf ds ys → m { nx := fun r _ => r = [] } ys (startD N ds)) : GGn P w K mg base x k ps gf :=
  ⟨f, fd, hg, F.kp, F.bindsN hb, fun ds ys hl hq B outer s H args us vs aS A n hr e0 bt hv rv rp st hA dom => gmade hT F Sc Bd (hm ds ys hl hq) hr e0 bt hv rv rp st hA dom⟩
def eGen (len : Nat) (gf : List DL.D → List DL.D → Prop) (ml : EM (List DL.D)) : EM (List DL.D) := fun xq s n Q => ml xq s n fun ds n1 => ds.length = len ∧ ∃ ys, gf ds ys ∧ Q ys n1
/-- where the one who asks stands; a sleeper of his -/
structure Hold1 (X : Cx) (G : GT) (pins : List (Addr × Obj)) (H : Hp) (A : AS) (s : Shared) (ys : List DL.D) (Pr : AS) : Prop where
  el : Elder X pins G.L
  ha : s.heap.IsGen G.a G.g
  ga : GenAt G Pr H
  on : ∀ b, Pr b → ∃ u, H b = some u
  sl : ∃ gs Gl Hl Al, s.gens[G.g]? = some gs ∧ Sleep G ys gs Gl Hl Al Pr ∧ (∀ b u, Hl b = some u → ¬ Al b → Kp1 u (H b)) ∧ (∀ b xs, Hl b = some (.tup xs) → H b = some (.tup xs)) ∧ (∀ b, A b → Al b ∨ Hl b = none) ∧ Slp (fun i => G.g < i) Gl s.gens
section
variable {X : Cx} {E : XK} {O O' OL vs : List Nat} {e tg : Expr} {es : List Expr} {ml : EM (List DL.D)} {mb : SM} {g : DG} {pos p fpos : Pos} {x : Str} {ps : List Str} {k k' : Nat} {gf : List DL.D → List DL.D → Prop} {body : List Stmt}
theorem eval_gen (Gf : GGn X.prog X.w X.K X.mg X.base x k ps gf) (hr : Room k X.A) (hg : Gl X x) (ha : VA Rep X E O (e :: es) ml) (hdb : (x == ("__debug__" : Str)) = false := by decide) (he : starEach (e :: es) X.env = (false, eval e X.env) :: starEach es X.env := by rfl) (hpl : (backTo pos (starEach es X.env)).any (·.1) = false := by rfl)
    {pins : List (Addr × Obj)} {s : Shared} {σ : L2.St} {H H0 : Hp} {aS : Addr} {A0 : A0T} {sv : Ev} {n : Nat} {xq : XQ} {W : List DL.D → Nat → Prop} (I : Inv X pins σ H s) (S : SR X.K aS O A0 H0 σ H sv n) (L : LX X.K E aS A0 H0 xq) (h : eGen ps.length gf ml xq sv n W) :
    wpAny (model X.prog X.w) X.A (eval (.Call (.Name x p) (e :: es) [] pos) X.env) (fun u s2 => ∃ N env a g go H2 Pr ys n2, u = .ref a ∧ W ys n2 ∧ Inv X pins σ H2 s2 ∧ KpS aS H H2 ∧ StA X.K aS H2 n2 ∧ (∀ b, Pr b → H b = none) ∧ Hold1 X (mkG X N env k aS a g go) pins H2 (AV aS A0 O σ) s2 ys Pr ∧ s.gens.size ≤ g ∧ g < s2.gens.size ∧ s2.gens.size ≤ g + 1) X.xe s := by
  obtain ⟨f, fd, hm, hk, hbd, run⟩ := Gf
  obtain ⟨mn, ta, pa, fa⟩ := ha
  have hta : ta σ H fun vs H1 => ∃ ds ys n1, ds.length = ps.length ∧ gf ds ys ∧ W ys n1 ∧ KpS aS H H1 ∧ StA X.K aS H1 n1 ∧ RepL X.K aS H1 (AV aS A0 O σ) ds vs :=
    fa aS A0 H0 σ H sv n xq _ S L (mn _ _ _ _ _ (fun ds n1 ⟨hl, ys, hq, w⟩ vs H1 kp st r => ⟨ds, ys, n1, hl, hq, w, kp, st, RL.repL r⟩) h)
  refine wpAny_Call_Name_kw (ld_glob I hg hm ?_ hdb)
  refine PySem.W.callWith_K (h₀ := X.base) I.ok.mod.kin hk (wpAny_gsz (n := s.gens.size) (Nat.le_refl _) (wpAny_mono (pa.run pos pins s σ H _ I hta) (fun us s1 q hsz => ?_) fun _ _ y _ => y)) he hpl
  obtain ⟨vs, H1, I1, rv, ds, ys, n1, hl, hq, w, kp, st, rp⟩ := q
  refine ⟨I1.kIn, ?_⟩
  have hvl : vs.length = ps.length := rp.length.trans hl
  have hul : us.length = ps.length := rv.length ▸ hvl
  have S1 := S.step kp st
  have bt := hbd s1 us I1.kIn (by rw [List.append_nil]; exact hul)
  rw [List.append_nil] at bt
  refine wpAny_call (codeAny_mono (run ds ys hl hq X.A X.stack s1 H1 ⟨us, []⟩ us vs aS (AV aS A0 O σ) n1 hr I1.env0 bt hvl rv rp st AV.st S1.cn.dom) fun r s2 y => ?_)
  match r, y with
  | .ok (.ret u), y =>
    obtain ⟨N, env, a, go, c, H2, Pr, eu, eL, os, bare, kept, eg, hok, up, noT, old, free, on, sl, ga⟩ := y
    have gsz : s2.gens.size = s1.gens.size + 1 := by rw [eg, Array.size_push]
    have I2 : Inv X pins σ H2 s2 := by
      refine I1.call' (ch := []) os ⟨fun b o e _ _ _ => kept b o e, fun b o e _ _ _ => ⟨o.slots, kept b o e⟩, fun b o e hn _ => free b hn (Heap.lt_size e), fun b o e _ => ⟨o, kept b o e⟩, fun b xs e => up b _ e, fun b o v e => up b _ e, fun b ps e => ⟨#[], by rw [Array.append_empty]; exact up b _ e⟩⟩ hok bare fun b hb => nomatch hb
    have el : Elder X pins env.locals := by
      rw [eL]
      exact ⟨I1.sz, I1.lt, fun y c e => (I1.cell y c e).elim fun v q => q.lt, fun p hp => Heap.lt_size (I1.pin p hp).1⟩
    have ha : s2.heap.IsGen a s1.gens.size := by
      obtain ⟨_, φ, e, q⟩ := ga
      obtain ⟨y, _⟩ := hok a _ e
      exact q _ y
    refine ⟨N, env, a, s1.gens.size, go, H2, Pr, ys, n1, eu, w, I2, kp.trans fun b u e _ => .of (up b u e), st.kp ⟨up, noT⟩, fun b h => ?_, ⟨el, ha, ga, on, _, _, _, _, ?_, sl, fun b u e _ => .of e, fun b xs e => e, fun b e => .inl e, Slp.refl _⟩, hsz, by rw [gsz]; exact Nat.lt_succ_self _, Nat.le_of_eq gsz⟩
    · refine Option.eq_none_iff_forall_ne_some.mpr fun u hu => ?_
      have hb := old b h
      by_cases hs : b = aS
      · obtain ⟨xs, hx⟩ := st.lst
        rw [← hs] at hx
        exact absurd (I1.hok.lt hx) (Nat.not_lt.mpr hb)
      · obtain ⟨v, hv⟩ := (kp b u hu hs).dom
        exact absurd (I1.hok.lt hv) (Nat.not_lt.mpr hb)
    · show s2.gens[s1.gens.size]? = _
      rw [eg]
      exact Array.getElem?_push_size ..
  | .ok .next, y => exact False.elim y
  | .ok .brk, y => exact False.elim y
  | .ok .cont, y => exact False.elim y
  | .error _, y => exact False.elim y
/-- at the loop's head -/
structure Hd (X : Cx) (G : GT) (pins : List (Addr × Obj)) (O : List Nat) (A0 : A0T) (H0 : Hp) (ys : List DL.D) (σ : L2.St) (H : Hp) (s : Shared) (sv : Ev) (n : Nat) (Pr : AS) : Prop where
  inv : Inv X pins σ H s
  sr : SR X.K G.aS O (cat A0 Pr) (bare O σ H) σ H sv n
  le : KpS G.aS H0 (bare O σ H)
  hd : Hold1 X G pins H (AV G.aS A0 O σ) s ys Pr
  gsz : G.g < s.gens.size
  prA : ∀ b, Pr b → ¬ A0.p b ∧ b ≠ G.aS ∧ H0 b = none
theorem Hd.wok {N : List Str} {env : Env} {aS a : Addr} {g : Nat} {go : Obj} {pins : List (Addr × Obj)} {A0 : A0T} {H0 : Hp} {ys : List DL.D} {σ : L2.St} {H : Hp} {s : Shared} {sv : Ev} {n : Nat} {Pr : AS} (h : Hd X (mkG X N env k aS a g go) pins O A0 H0 ys σ H s sv n Pr) (hr : Room (k + 1) X.A)
    {Gl : Array GenState} {Hl : Hp} {Al : AS} (k1 : ∀ b u, Hl b = some u → ¬ Al b → Kp1 u (H b)) (k2 : ∀ b xs, Hl b = some (.tup xs) → H b = some (.tup xs)) (k3 : ∀ b, AV aS A0 O σ b → Al b ∨ Hl b = none) (k4 : Slp (fun i => g < i) Gl s.gens) :
    WOk (mkG X N env k aS a g go) Gl Hl Al ⟨X.A.in1, s.setGen g .running, H, AV aS A0 O σ, Pr, n⟩ := by
  have e0 := h.inv.env0
  refine ⟨⟨e0.frames, e0.mod, e0.bs, e0.bsz, e0.funs, e0.frf, e0.hok, allBare_setGen e0.bare rfl⟩, hr.in1, k1, k2, k3, AV.st, fun b y => h.sr.cn.dom b (by rw [av_cat]; exact .inl y), fun b y z => ?_, h.sr.st, k4.set (Nat.lt_irrefl _), by rw [setGen_size]; exact h.gsz⟩
  rcases z with z | z | ⟨i, hi, e⟩
  · exact (h.prA b y).1 z
  · exact (h.prA b y).2.1 z
  · obtain ⟨d, b', _, e2, _, e4, _⟩ := h.sr.ow i hi
    rw [e] at e2
    cases e2
    exact e4 (.inr y)
/-- behind a stretch -/
theorem Hd.next {G : GT} {pins : List (Addr × Obj)} {A0 : A0T} {H0 H' : Hp} {ys : List DL.D} {σ : L2.St} {H : Hp} {s : Shared} {sv : Ev} {n : Nat} {Pr Pr' : AS} (h : Hd X G pins O A0 H0 ys σ H s sv n Pr) (f : Af X.K G.aS H Pr n Pr' H') :
    SR X.K G.aS O (cat A0 Pr') (bare O σ H') σ H' sv n ∧ KpS G.aS H0 (bare O σ H') ∧ ∀ b, Pr' b → ¬ A0.p b ∧ b ≠ G.aS ∧ H0 b = none := by
  have own : ∀ b, (∃ i, i ∈ O ∧ σ[i]? = some (some (.ref b))) → H0 b = none ∧ ¬ Pr b := fun b ⟨i, hi, e⟩ => by
    obtain ⟨d, b', _, e2, e3, e4, e5, _⟩ := h.sr.ow i hi
    rw [e] at e2
    cases e2
    refine ⟨Option.eq_none_iff_forall_ne_some.mpr fun u hu => ?_, fun y => e4 (.inr y)⟩
    obtain ⟨v, hv⟩ := (h.le b u hu e5).dom
    rw [e3] at hv
    cases hv
  refine ⟨SR.after h.sr f fun b y => (h.prA b y).1, fun b u hu hb => ?_, fun b y => ?_⟩
  · have k0 := h.le b u hu hb
    have no : ¬ ∃ i, i ∈ O ∧ σ[i]? = some (some (.ref b)) := fun y => by rw [(own b y).1] at hu; cases hu
    rw [bare_not no] at k0
    rw [bare_not no]
    refine k0.trans fun v hv => f.kp b v hv (fun y => ?_) hb
    rw [(h.prA b y).2.2] at hu
    cases hu
  · rcases f.new b y with z | z
    · exact h.prA b z
    · have nb : b ≠ G.aS := fun w => by
        obtain ⟨xs, hx⟩ := h.sr.st.lst
        rw [w, hx] at z
        cases z
      refine ⟨fun w => ?_, nb, Option.eq_none_iff_forall_ne_some.mpr fun u hu => ?_⟩
      · obtain ⟨u, hu⟩ := h.sr.av b (.inl w)
        rw [z] at hu
        cases hu
      · have k0 := h.le b u hu nb
        have no : ¬ ∃ i, i ∈ O ∧ σ[i]? = some (some (.ref b)) := fun y => by rw [(own b y).1] at hu; cases hu
        rw [bare_not no, z] at k0
        obtain ⟨v, hv⟩ := k0.dom
        cases hv
/-- where it begins -/
theorem Hd.begin {N : List Str} {env : Env} {aS a : Addr} {gi : Nat} {go : Obj} {pins : List (Addr × Obj)} {A0 : A0T} {H0 H H2 : Hp} {ys : List DL.D} {σ : L2.St} {s2 : Shared} {sv : Ev} {n n2 : Nat} {Pr : AS} (S : SR X.K aS O A0 H0 σ H sv n) (I2 : Inv X pins σ H2 s2) (kp : KpS aS H H2) (st : StA X.K aS H2 n2) (prn : ∀ b, Pr b → H b = none)
    (hd : Hold1 X (mkG X N env k aS a gi go) pins H2 (AV aS A0 O σ) s2 ys Pr) (gsz : gi < s2.gens.size) : Hd X (mkG X N env k aS a gi go) pins O A0 H0 ys σ H2 s2 sv n2 Pr := by
  have S0 : SR X.K aS O (cat A0 none0) (bare O σ H) σ H sv n := SR.less S.base (fun b y => y.elim id fun y => y.elim) rfl
  have nt : ∀ b xs, H b = some (.tup xs) → b ≠ aS := fun b xs h y => by
    obtain ⟨zs, hz⟩ := S.st.lst
    rw [y, hz] at h
    cases h
  have af : Af X.K aS H none0 n2 Pr H2 := ⟨fun b u h _ hb => kp b u h hb, fun b xs h => kp b (.tup xs) h (nt b xs h), st, fun b y => .inr (prn b y), hd.on⟩
  refine ⟨I2, SR.after S0 af fun _ y => y.elim, (S.step kp st).le, hd, gsz, fun b y => ⟨fun z => ?_, fun z => ?_, Option.eq_none_iff_forall_ne_some.mpr fun u hu => ?_⟩⟩
  · obtain ⟨u, hu⟩ := S.av b z
    rw [prn b y] at hu; cases hu
  · obtain ⟨zs, hz⟩ := S.st.lst
    have := prn b y
    rw [show b = aS from z, hz] at this
    cases this
  · have hb : b ≠ aS := fun z => by
      obtain ⟨zs, hz⟩ := S.st.lst
      have := prn b y
      rw [z, hz] at this
      cases this
    obtain ⟨v, hv⟩ := (S.fr b u hu hb).dom
    rw [prn b y] at hv
    cases hv
end
end DL.GF
/-! for x in g(..) and for x in a list, in a generator -/
namespace DL.GF
open PySem PySem.Spec PyProof.Rows GenW L2
variable [TabC]
section
variable {G : GT} {q : WD} {H0 : Hp} {ip : List (Addr × Obj)} {Px Py : AS} {O O' OL vs : List Nat} {σ σ' : L2.St} {H H' : Hp} {z z' : Shared} {sv sv' : Ev} {tg : Expr} {g : DG}
variable {e : Expr} {es : List Expr} {ml : EM (List DL.D)} {pos p fpos : Pos} {x : Str} {ps : List Str} {k k' : Nat} {gf : List DL.D → List DL.D → Prop} {body : List Stmt}
end
section
variable {G : GT} {O OL vs : List Nat} {tg : Expr} {g : DG} {e : Expr} {es : List Expr} {ml : EM (List DL.D)} {pos p fpos : Pos} {x : Str} {ps : List Str} {k : Nat} {gf : List DL.D → List DL.D → Prop} {body : List Stmt} {mb : GM}
end
end DL.GF
/-! for x in a list, in a generator -/
namespace DL.GF
open PySem PySem.Spec PyProof.Rows GenW L2
variable [TabC]
section
variable {G : GT} {q : WD} {H0 : Hp} {ip : List (Addr × Obj)} {Px : AS} {O OL vs : List Nat} {σ : L2.St} {H : Hp} {z z' : Shared} {sv : Ev} {tg e : Expr} {g : DG} {m : EM D} {mb : GM} {body : List Stmt} {fpos : Pos}
end
end DL.GF
namespace DL
open PySem PySem.Spec PyProof.Rows L2
variable [TabC]
/-- y = xs.pop(), xs owned -/
def sSetPop (j i : Nat) : SM := fun xq de s n => ∃ ds d, s[i]? = some (some (.lst (ds ++ [d]))) ∧ de.nx ((s.set i (some (.lst ds))).set j (some d)) n
section
variable {X : Cx} {E : XK} {O OL : List Nat} {pos : Pos} {i j : Nat} {x y : Str}
theorem vs_setPop {p1 p2 ap cp : Pos} (hij : i ≠ j) (hi : i ∈ O) (hj : j ∉ O) (hnd : X.N.Nodup) (hNi : X.N[i]? = some x) (hvi : Vis X.env.scope x) (hNj : X.N[j]? = some y) (hyj : Loc X.env.scope y)
    (hpe : ∀ {tp : TE}, PE X (.Name x p2) tp → PE X (.Call (.Attribute (.Name x p2) "pop" ap) [] [] cp) (tBM0 X.K "list" rPop tp) := by
      intro tp h2; exact pe_bm0 PySem.F.plainAttrs_list PySem.F.slot_list_pop PySem.F.type_list_pop mt_pop h2)
    (hs : swapsWith (.Call (.Attribute (.Name x p2) "pop" ap) [] [] cp) (some (.Name y p1)) pos.line X.env = pure false := by rfl) (hf : X.fn y = true ∨ X.env.scope.names.lookup y = some .local := by first | exact .inl rfl | exact .inr rfl | assumption)
    (hd : (x == ("__debug__" : Str)) = false := by decide) (hcd : (x == ("__classdict__" : Str)) = false := by decide) :
    VS X E O O OL (.Assign [.Name y p1] (.Call (.Attribute (.Name x p2) "pop" ap) [] [] cp) pos) (sSetPop j i) := by
  refine ⟨_, ps_set hnd hNj hyj (hpe (pe_var hNi hvi hd hcd)) hs hf, fun aS A0 H0 σ H s n xq de De S L k h => ?_⟩
  obtain ⟨ds, d, es, q⟩ := h
  obtain ⟨a, xs, y1, y2, y3, y4⟩ := own_lst S hi es
  have hd' : (ds ++ [d])[ds.length]? = some d := by simp
  obtain ⟨v, hv, rv⟩ := y4.get hd'
  have hl : xs.length = ds.length + 1 := by rw [y4.length]; simp
  have hl2 : xs.length - 1 = ds.length := by omega
  refine ⟨_, y1, .inl ⟨rfl, _, SqL.of y3⟩, a, xs, v, rfl, rfl, y3, by rw [hl2]; exact hv, ?_⟩
  have r' := y4.take ds.length
  have e1 : (ds ++ [d]).take ds.length = ds := by simp
  rw [e1] at r'
  have e2 : xs.take ds.length = xs.dropLast := by rw [List.dropLast_eq_take, hl2]
  rw [e2] at r'
  have S2 := S.mutL hi y1 y3 r'
  refine k.nx _ _ _ _ (S2.set hj ?_) q
  have hA : AV aS A0 O σ a := .inr (.inr ⟨i, hi, y1⟩)
  exact Rep.mono (sub_poke (K := X.K) (o' := .lst xs.dropLast) hA y3 (fun _ z => nomatch z)) _ _ rv
end
end DL
/-! generators read as plain functions: what is handed out, and how it ends -/
namespace DL
open PySem PySem.Spec PyProof.Rows L2
variable [TabC]
def fSetPop (j i : Nat) : FS := fun s => match s[i]? with
  | some (some (.lst l)) => (match l.getLast? with
    | some d => .nx ((s.set i (some (.lst l.dropLast))).set j (some d))
    | none => .bad)
  | _ => .bad
theorem ls_setPop {j i : Nat} : ∀ xq de s n, upS (fSetPop j i) xq de s n → sSetPop j i xq de s n := fun xq de s n h => by
  unfold upS fSetPop at h
  split at h
  · next l e =>
    split at h
    · next d ed =>
      obtain ⟨r, rfl⟩ := List.getLast?_eq_some_iff.mp ed
      rw [List.dropLast_concat] at h
      exact ⟨r, d, e, h⟩
    · exact h.elim
  · exact h.elim
end DL
namespace DL.GF
open PySem PySem.Spec PyProof.Rows GenW L2
variable [TabC]
abbrev FGS := Ev → List DL.D × SO
abbrev GFm := List DL.D → Option (List DL.D)
def endY (D : GDE) (rest : List DL.D) : SO → Prop
  | .nx s => D.nx rest s
  | .bk s => D.bk rest s
  | .ct s => D.ct rest s
  | _ => False
def upY (f : FGS) : GM := fun D ys s => ∃ rest, ys = (f s).1 ++ rest ∧ endY D rest (f s).2
def Yle (f : FGS) (m : GM) : Prop := ∀ D ys s, upY f D ys s → m D ys s
def yNil : FGS := fun s => ([], .nx s)
def yPl (f : FS) : FGS := fun s => ([], f s)
def onNx (r : List DL.D × SO) (k : Ev → List DL.D × SO) : List DL.D × SO := match r.2 with
  | .nx s => (r.1 ++ (k s).1, (k s).2)
  | o => (r.1, o)
def ySeq (a b : FGS) : FGS := fun s => onNx (a s) b
def yIf (t : FM Bool) (a b : FGS) : FGS := fun s => match t s with
  | .ok true => a s
  | .ok false => b s
  | _ => ([], .bad)
def yYield (m : FM D) : FGS := fun s => match m s with
  | .ok d => ([d], .nx s)
  | _ => ([], .bad)
/-- a turn's end -/
def onTurn (r : List DL.D × SO) (k : Ev → List DL.D × SO) : List DL.D × SO := match r.2 with
  | .nx s => (r.1 ++ (k s).1, (k s).2)
  | .ct s => (r.1 ++ (k s).1, (k s).2)
  | .bk s => (r.1, .nx s)
  | o => (r.1, o)
def yWhileN (t : FM Bool) (b : FGS) : Nat → FGS
  | 0 => fun _ => ([], .bad)
  | k + 1 => fun s => match t s with
    | .ok true => onTurn (b s) (yWhileN t b k)
    | .ok false => ([], .nx s)
    | _ => ([], .bad)
def yWhile (t : FM Bool) (b : FGS) : FGS := yWhileN t b FUEL
def fGen (len : Nat) (F : GFm) (m : FM (List DL.D)) : FM (List DL.D) := fun s => (m s).bind fun ds => if ds.length = len then ofO (F ds) else .bad
def runY (N : List Str) (b : FGS) : GFm := fun ds => match b (startD N ds) with
  | (l, .nx _) => some l
  | _ => none
def relY (F : GFm) : List DL.D → List DL.D → Prop := fun ds ys => F ds = some ys
theorem le_gen {len : Nat} {F : GFm} {m : FM (List DL.D)} : ∀ xq s n Q, up (fGen len F m) xq s n Q → eGen len (relY F) (up m) xq s n Q := fun xq s n Q h => by
  unfold eGen up
  refine wp_mono (fun ds h => ?_) (wp_bind h)
  by_cases hl : ds.length = len
  · rw [if_pos hl] at h
    obtain ⟨ys, e, q⟩ := wp_ofO h
    exact ⟨hl, ys, e, q⟩
  · rw [if_neg hl] at h
    exact h.elim
section
variable {a b : FGS} {ma mb : GM} {f : FS} {t : FM Bool} {g : FG} {m : FM D} {ml : FM (List DL.D)}
theorem yle_nil : Yle yNil gNil := fun D ys s ⟨rest, e, h⟩ => by
  have e : ys = rest := e
  rw [e]
  exact h
theorem yle_pl : Yle (yPl f) (gPl (upS f)) := fun D ys s ⟨rest, e, h⟩ n => by
  have e : ys = rest := e
  have h : endY D rest (f s) := h
  subst e
  unfold upS
  cases e2 : f s <;> rw [e2] at h
  · exact ⟨rfl, h⟩
  · exact h
  · exact ⟨rfl, h⟩
  · exact ⟨rfl, h⟩
  · exact h
  · exact h
theorem yle_seq (h1 : Yle a ma) (h2 : Yle b mb) : Yle (ySeq a b) (gSeq ma mb) := fun D ys s ⟨rest, e, h⟩ => by
  unfold ySeq onNx at e h
  refine h1 { D with nx := fun ys' s' => mb D ys' s' } ys s ?_
  cases e2 : (a s).2 with
  | nx s1 =>
    rw [e2] at e h
    refine ⟨(b s1).1 ++ rest, by rw [e, List.append_assoc], ?_⟩
    rw [e2]
    exact h2 D _ s1 ⟨rest, rfl, h⟩
  | rt d => rw [e2] at h; exact h.elim
  | bk s1 => rw [e2] at e h; exact ⟨rest, e, by rw [e2]; exact h⟩
  | ct s1 => rw [e2] at e h; exact ⟨rest, e, by rw [e2]; exact h⟩
  | ex x => rw [e2] at h; exact h.elim
  | bad => rw [e2] at h; exact h.elim
theorem yle_if (h1 : Yle a ma) (h2 : Yle b mb) : Yle (yIf t a b) (gIf (up t) ma mb) := fun D ys s ⟨rest, e, h⟩ n => by
  unfold yIf at e h
  unfold up
  cases e2 : t s with
  | ok c =>
    rw [e2] at e h
    cases c with
    | true => exact ⟨rfl, h1 D ys s ⟨rest, e, h⟩⟩
    | false => exact ⟨rfl, h2 D ys s ⟨rest, e, h⟩⟩
  | ex x => rw [e2] at h; exact h.elim
  | bad => rw [e2] at h; exact h.elim
theorem yle_yield : Yle (yYield m) (gYield (up m)) := fun D ys s ⟨rest, e, h⟩ n => by
  unfold yYield at e h
  unfold up
  cases e2 : m s with
  | ok d => rw [e2] at e h; exact ⟨rfl, rest, e, h⟩
  | ex x => rw [e2] at h; exact h.elim
  | bad => rw [e2] at h; exact h.elim
theorem yle_turn {D : GDE} {r : List DL.D × SO} {k : Ev → List DL.D × SO} {ys rest : List DL.D} {N : List DL.D → Ev → Prop} (hN : ∀ ys' s', (∃ rest, ys' = (k s').1 ++ rest ∧ endY D rest (k s').2) → N ys' s') (e : ys = (onTurn r k).1 ++ rest) (h : endY D rest (onTurn r k).2) :
    ∃ rest, ys = r.1 ++ rest ∧ endY { nx := N, ct := N, bk := D.nx } rest r.2 := by
  unfold onTurn at e h
  cases e2 : r.2 with
  | nx s1 => rw [e2] at e h; exact ⟨(k s1).1 ++ rest, by rw [e, List.append_assoc], hN _ _ ⟨rest, rfl, h⟩⟩
  | ct s1 => rw [e2] at e h; exact ⟨(k s1).1 ++ rest, by rw [e, List.append_assoc], hN _ _ ⟨rest, rfl, h⟩⟩
  | bk s1 => rw [e2] at e h; exact ⟨rest, e, h⟩
  | rt d => rw [e2] at h; exact h.elim
  | ex x => rw [e2] at h; exact h.elim
  | bad => rw [e2] at h; exact h.elim
theorem yle_whileN (h1 : Yle a ma) : ∀ (k : Nat) (D : GDE) (ys : List DL.D) (s : Ev), upY (yWhileN t a k) D ys s → gWhileN (up t) ma D k ys s
  | 0, D, ys, s, ⟨rest, e, h⟩ => h
  | k + 1, D, ys, s, ⟨rest, e, h⟩ => fun n => by
    unfold yWhileN at e h
    unfold up
    cases e2 : t s with
    | ok c =>
      rw [e2] at e h
      cases c with
      | false =>
        have e : ys = rest := e
        rw [e]
        exact ⟨rfl, h⟩
      | true => exact ⟨rfl, h1 _ ys s (yle_turn (fun ys' s' q => yle_whileN h1 k D ys' s' q) e h)⟩
    | ex x => rw [e2] at h; exact h.elim
    | bad => rw [e2] at h; exact h.elim
theorem yle_while (h1 : Yle a ma) : Yle (yWhile t a) (gWhile (up t) ma) := fun D ys s h => ⟨FUEL, yle_whileN h1 FUEL D ys s h⟩
/-- a def's own -/
theorem yle_run {N : List Str} (h : Yle a ma) {ds ys : List DL.D} (e : relY (runY N a) ds ys) : ma { nx := fun r _ => r = [] } ys (startD N ds) := by
  unfold relY runY at e
  refine h _ _ _ ⟨[], ?_⟩
  split at e
  · next l s' e2 =>
    rw [e2]
    cases e
    exact ⟨(List.append_nil _).symm, rfl⟩
  · cases e
end
theorem tkG {G : GG} {B : Around} {s0 : Shared} {H0 : Hp} : TK (gx G B s0 H0) EF := tk_f
theorem poG {G : GG} {B : Around} {s0 : Shared} {H0 : Hp} : PassesOwn (model (gx G B s0 H0).prog (gx G B s0 H0).w) (gx G B s0 H0).A (gx G B s0 H0).env (gx G B s0 H0).xe := gx_po
theorem ucG {G : GG} {B : Around} {s0 : Shared} {H0 : Hp} : UC (gx G B s0 H0) EF := uc_f
theorem rmG {G : GG} {k : Nat} {B : Around} {s0 : Shared} {H0 : Hp} (h : Room (k + 1) B) : Room k (gx G B s0 H0).A := h.deeper _
end DL.GF
namespace DL
open PySem PySem.Spec PySem.W PyProof.Rows L2
variable [TabC]
/-! min(xs, default=None) of a list of numbers; abs -/
section
variable {X : Cx} {E : XK} {O : List Nat} {e : Expr} {es : List Expr} {m : EM D} {pos : Pos} {k' : Nat}
end
end DL
namespace DL
open PySem PySem.Spec PyProof.Rows L2
variable [TabC]
section
variable {X : Cx} {E : XK} {O OL : List Nat} {pos : Pos} {i : Nat} {e : Expr} {m : EM D} {a : FM D}
end
end DL
namespace DL
open PySem PySem.Spec PyProof.Rows L2
variable [TabC]
/-! x = [.. for .. in .. for .. in ..] (printed by mklcs.py out of LC2) -/
section
variable {X : Cx} {E : XK} {O OB hid hs : List Nat} {tg e iter tg1 iter1 : Expr} {ifs ifs1 : List Expr} {m me m1 : EM D} {mi : EM (List D)} {mt mt1 : EM Bool} {g g1 : DG} {scope : Scope} {pos : Pos}
end
end DL
namespace DL
open PySem PySem.Spec PyProof.Rows L2
variable [TabC]
abbrev N_hangings : List Str := ["names", "looks", "some", "waiting", "anchors", "name", "anchor", "longer"]
def b_hangings_1 : FS := (fSeq (fSet 7 (fDsp1 (fVar 4) (fVar 5) (fVar 6))) (fIfS (fBinT dNotIn (fVar 5) (fCall 2 f_way_up [] (fCons (fVar 7) (fCons (fVar 5) fNil)))) (fApp 3 (fVar 7)) fNilS))
def B_hangings : GF.FGS :=
  (GF.ySeq (GF.yPl (fSetF 2 (fLc (fIter (fVar 0)) [5] (fgNm 5) (fBinT dIn (fVar 5) (fVar 1)) (fVar 5)))) (GF.ySeq (GF.yPl (fSetF 3 (fLst (fCons (fC (.dic [])) fNil)))) (GF.ySeq (GF.yWhile (fBinT dGt (fBlt dLen (fCons (fVar 3) fNil)) (fC (.int 0))) (GF.ySeq (GF.yPl (fSetPop 4 3)) (GF.ySeq (GF.yIf (fBinT dEq (fBlt dLen (fCons (fVar 4) fNil)) (fBlt dLen (fCons (fVar 0) fNil))) (GF.ySeq (GF.yYield (fMake 2 f_Hanging___init__ [] (fCons (fVar 4) fNil))) GF.yNil) (GF.ySeq (GF.yPl (fSet 5 (fBin dIdx (fVar 0) (fBlt dLen (fCons (fVar 4) fNil))))) (GF.ySeq (GF.yPl (fFor (fIter (fBin dAdd (fLst (fCons (fC (.str "clock")) fNil)) (fVar 2))) (fgNm 6) (b_hangings_1))) GF.yNil))) GF.yNil))) GF.yNil)))
def f_hangings : GF.GFm := GF.runY N_hangings B_hangings
end DL
/-! a place that is tracked as it stands, and no more -/
namespace DL.GF
open PySem PySem.Spec PyProof.Rows GenW L2
variable [TabC]
/-- a place is tracked no more -/
def offH (C : Addr) (H : Hp) : Hp := fun b => if b = C then none else H b
/-- a place is tracked as it stands -/
def onH (C : Addr) (h : Heap) (H : Hp) : Hp := L2.upd H C (.ext fun h1 => h1.get? C = h.get? C)
section
variable {C b : Addr} {h : Heap} {H H' H0 : Hp} {u : HO} {P : Program} {w : World} {φ : Heap → Prop}
theorem off_same : offH C H C = none := by unfold offH; rw [if_pos rfl]
theorem off_ne (hb : b ≠ C) : offH C H b = H b := by unfold offH; rw [if_neg hb]
theorem off_some (e : offH C H b = some u) : H b = some u ∧ b ≠ C := by
  by_cases hb : b = C
  · rw [hb, off_same] at e; cases e
  · rw [off_ne hb] at e; exact ⟨e, hb⟩
theorem off_none (e : H b = none) : offH C H b = none := by
  by_cases hb : b = C
  · rw [hb, off_same]
  · rw [off_ne hb]; exact e
theorem on_same : onH C h H C = some (.ext fun h1 => h1.get? C = h.get? C) := by unfold onH; exact upd_same
theorem on_ne (hb : b ≠ C) : onH C h H b = H b := by unfold onH; exact upd_ne hb
theorem hok_on {o : Obj} (k : HOk P w H h) (hn : H C = none) (ho : h.get? C = some o) : HOk P w (onH C h H) h := fun b u e => by
  have up : ∀ {c v}, H c = some v → onH C h H c = some v := fun {c v} q => by rw [on_ne fun z => by rw [z, hn] at q; cases q]; exact q
  by_cases hb : b = C
  · rw [hb, on_same] at e
    cases e
    rw [hb]
    refine ⟨rfl, ⟨o, ho⟩, fun h1 h2 p kk => ?_⟩
    have p : h1.get? C = h.get? C := p
    rw [ho] at p
    show h2.get? C = h.get? C
    rw [ho]
    exact kk o p
  · rw [on_ne hb] at e
    exact (k b u e).stay (fun _ _ _ y => y) (fun _ y => up y) fun _ _ y => up y
theorem hok_off (k : HOk P w H h) (hC : H C = some (.ext φ)) : HOk P w (offH C H) h := fun b u e => by
  obtain ⟨e, hn⟩ := off_some e
  have st : ∀ {c : Addr} {v : HO}, H c = some v → (∀ φ, v ≠ .ext φ) → offH C H c = some v := fun {c v} y hv => by
    rw [off_ne fun z => by rw [z, hC] at y; exact hv φ (Option.some.inj y).symm]
    exact y
  exact (k b u e).stay (fun _ _ _ y => y) (fun _ y => st y (fun _ z => nomatch z)) fun _ _ y => st y (fun _ z => nomatch z)
end
section
variable {X : Cx} {pins : List (Addr × Obj)} {σ : L2.St} {H H' Hx : Hp} {s z : Shared} {C : Addr} {o : Obj} {φ : Heap → Prop}
theorem inv_on (I : Inv X pins σ H s) (ho : s.heap.get? C = some o) (f : FpOk X pins H C) : Inv X pins σ (onH C s.heap H) s := by
  obtain ⟨f0, f1, f2, f3, f4, f5⟩ := f
  have up : ∀ {c v}, H c = some v → onH C s.heap H c = some v := fun {c v} q => by rw [on_ne fun z => by rw [z, f0] at q; cases q]; exact q
  refine ⟨I.ok, I.os, I.bare, ⟨I.base.keep, I.base.slot, fun b q e n hx => ?_, I.base.there, fun b xs e => up (I.base.tups b xs e), fun b q u e => up (I.base.frzs b q u e), fun b ps e => ?_⟩, I.loc, I.cell, ?_, fun x c e => ?_, fun p hp => ?_, hok_on I.hok f0 ho, I.len⟩
  · rw [on_ne fun z => ?_]
    · exact I.base.free b q e n hx
    · rw [z] at e hx
      rcases f3 with y | y
      · exact hx y
      · exact absurd (Heap.lt_size e) (Nat.not_lt.mpr y)
  · obtain ⟨more, y⟩ := I.base.tbls b ps e
    exact ⟨more, up y⟩
  · rw [on_ne (Ne.symm f1)]; exact I.free
  · rw [on_ne (f4 x c e)]; exact I.freeC x c e
  · obtain ⟨a1, a2, a3⟩ := I.pin p hp
    exact ⟨a1, by rw [on_ne (f5 p hp)]; exact a2, a3⟩
theorem inv_off (I : Inv X pins σ H s) (hC : H C = some (.ext φ)) : Inv X pins σ (offH C H) s := by
  have st : ∀ {c : Addr} {v : HO}, H c = some v → (∀ φ, v ≠ .ext φ) → offH C H c = some v := fun {c v} y hv => by
    rw [off_ne fun z => by rw [z, hC] at y; exact hv φ (Option.some.inj y).symm]
    exact y
  refine ⟨I.ok, I.os, I.bare, ⟨I.base.keep, I.base.slot, fun b q e n hx => off_none (I.base.free b q e n hx), I.base.there, fun b xs e => st (I.base.tups b xs e) (fun _ z => nomatch z), fun b q u e => st (I.base.frzs b q u e) (fun _ z => nomatch z), fun b ps e => ?_⟩, I.loc, I.cell, off_none I.free, fun x c e => off_none (I.freeC x c e), fun p hp => ?_, hok_off I.hok hC, I.len⟩
  · obtain ⟨more, y⟩ := I.base.tbls b ps e
    exact ⟨more, st y (fun _ z => nomatch z)⟩
  · obtain ⟨a1, a2, a3⟩ := I.pin p hp
    exact ⟨a1, off_none a2, a3⟩
/-- a block's names are its own alone -/
structure Plain (N : List Str) (scope : Scope) (own : List (Str × Nat)) : Prop where
  kind : scope.kind = .function
  loc : ∀ y ∈ scope.names, y.2 ≠ .cell ∧ y.2 ≠ .free
  ix : ∀ p ∈ own, N[p.2]? = some p.1
  own : ∀ y ∈ scope.names, y.2 = .local → y.1 ∈ own.map (·.1) ∨ y.1 ∉ N
theorem plain_cells {N : List Str} {scope : Scope} {own : List (Str × Nat)} (p : Plain N scope own) (cells : List (Str × Addr)) (hp : Heap) : cellsFrom (hp.objs.size + 1) scope.names (cloFrom cells scope.names []) = [] := by
  apply List.eq_nil_iff_forall_not_mem.mpr
  rintro ⟨x, c⟩ hm
  rw [← Heap.size_push hp { cls := .type "dict", data := .dict #[] }] at hm
  rcases cells_mem hm with hm | ⟨hm, _⟩
  · rcases cloFrom_mem hm with hm | ⟨hm, _⟩
    · exact nomatch hm
    · exact nomatch (p.loc _ hm)
  · exact nomatch (p.loc _ hm)
def atC (C : Addr) (s : Shared) : Shared := { s with heap := cut C s.heap }
/-- the block's frame is looked at anew -/
theorem blk_again {scope : Scope} {own : List (Str × Nat)} (hN : X.N.Nodup) (p : Plain X.N scope own) (I : Inv X pins σ H z) (hC : H C = some (.ext φ)) (hφ : φ z.heap) (hns : ∀ h, φ h → ∃ m, h.Ns C m) (hlt : X.env.locals < C) (hs : X.s_0.heap.objs.size ≤ C) :
    Inv (X.blk (atC C z) (offH C H) scope (compEnvC scope [] C X.env) []) [] (L2.wipe σ (own.map (·.2))) (offH C H) z := by
  have hL : C ≤ z.heap.objs.size := Nat.le_of_lt (I.hok.lt hC)
  have fsl : ∀ b ∈ frs X.stack, b < C := fun b hb => by
    rcases List.mem_cons.mp (I.stkSub b hb) with e | hb
    · rw [e]; exact hlt
    · obtain ⟨_, o, ho, _⟩ := I.ok.funs.mem hb
      exact Nat.lt_of_lt_of_le (Heap.lt_size ho) hs
  have key : ∀ {x k}, (compEnvC scope [] C X.env).scope.names.lookup x = some k → k ≠ .cell ∧ k ≠ .free ∧ scope.names.lookup x = some k := fun {x k} e => by
    obtain ⟨k', e', r⟩ := lookup_relS (sc := X.env.scope) e
    have h := p.loc _ (PySem.mem_of_lookup e')
    rcases r with r | ⟨r, _⟩
    · rw [r]; exact ⟨h.1, h.2, e'⟩
    · exact absurd r h.2
  have okB : (X.blk (atC C z) (offH C H) scope (compEnvC scope [] C X.env) []).Ok := by
    refine ⟨I.ok.mod, p.kind, I.ok.glob, I.ok.blt, Nat.le_of_eq (cut_size hL), (fun x y c e => nomatch (show ([] : List (Str × Addr)).lookup x = some c from e)), fun x hx => ?_, (fun x c _ e => nomatch (show ([] : List (Str × Addr)).lookup x = some c from e)), I.ok.hd, I.ok.frames, .inl rfl, (fun b hb => nomatch hb), fun b o e => ?_, ?_, (fun _ _ _ q => nomatch q), (fun _ q => nomatch q), funs_cut I.stack fsl, fun b hb => off_none (I.stkFree b hb)⟩
    · have hx : (compEnvC scope [] C X.env).scope.names.lookup x = some .cell ∨ (compEnvC scope [] C X.env).scope.names.lookup x = some .free := hx
      exfalso
      rcases hx with e | e
      · exact (key e).1 rfl
      · exact (key e).2.1 rfl
    · obtain ⟨e1, e2⟩ := I.bs b o e
      exact ⟨(cut_lt (Nat.lt_of_lt_of_le (Heap.lt_size e) (Nat.le_trans I.ok.bsz hs))).trans e1, off_none e2⟩
    · show X.base.objs.size ≤ (cut C z.heap).objs.size
      rw [cut_size hL]
      exact Nat.le_trans I.ok.bsz hs
  obtain ⟨m, hm⟩ := hns _ hφ
  refine ⟨okB, rfl, I.bare, ⟨fun b o q _ _ _ => (cut_some hL q).2, fun b o q _ _ _ => ⟨o.slots, (cut_some hL q).2⟩, fun _ _ _ n _ => n, fun b o q _ => ⟨o, (cut_some hL q).2⟩, fun _ _ q => q, fun _ _ _ q => q, fun _ ps q => ⟨#[], by rw [Array.append_empty]; exact q⟩⟩,
    ⟨m, hm, fun i x v e1 e2 e3 => ?_⟩, (fun x c e => nomatch (show ([] : List (Str × Addr)).lookup x = some c from e)), off_same, (fun x c e => nomatch (show ([] : List (Str × Addr)).lookup x = some c from e)), (fun p hp => nomatch (show p ∈ ([] : List (Addr × Obj)) ++ [] from hp)), hok_off I.hok hC, by rw [wipe_length]; exact I.len⟩
  exfalso
  obtain ⟨_, hne⟩ := wipe_some e2
  have hl : scope.names.lookup x = some .local := by
    have e3 : Vis (compEnvC scope [] C X.env).scope x := e3
    rcases e3 with e | e | e
    · exact (key e).2.2
    · exact absurd rfl (key e).1
    · exact absurd rfl (key e).2.1
  rcases p.own _ (PySem.mem_of_lookup hl) rfl with hm | hm
  · obtain ⟨q, hq, e⟩ := List.mem_map.mp hm
    have e4 := p.ix q hq
    have e : q.1 = x := e
    rw [e] at e4
    exact hne (List.mem_map.mpr ⟨q, hq, nodup_ix hN e4 e1⟩)
  · exact hm (List.mem_of_getElem? e1)
/-- back in the def's context -/
theorem blk_back {scope : Scope} {ce : Env} {pb : List (Addr × Obj)} {σ9 : L2.St} {H9 : Hp} {s9 : Shared} (I : Inv X pins σ H z) (hC : H C = some (.ext φ)) (hs : X.s_0.heap.objs.size ≤ C) (hlt : X.env.locals < C) (hcl : ∀ x c, X.env.cells.lookup x = some c → c < C) (hpn : ∀ p ∈ X.pn ++ pins, p.1 < C)
    (I9 : Inv (X.blk (atC C z) (offH C H) scope ce []) pb σ9 H9 s9) : Inv X pins σ H9 s9 := by
  have U : Un (frs X.stack) [] (offH C H) H9 (cut C z.heap) s9.heap := I9.base
  have old : ∀ b o, z.heap.get? b = some o → b ∉ young C z.heap → (cut C z.heap).get? b = some o := fun b o q hn => (cut_lt (not_young q hn)).trans q
  have st : ∀ {c : Addr} {v : HO}, H c = some v → (∀ φ, v ≠ .ext φ) → offH C H c = some v := fun {c v} y hv => by
    rw [off_ne fun z => by rw [z, hC] at y; exact hv φ (Option.some.inj y).symm]
    exact y
  refine I.call' (ch := young C z.heap) I9.os ⟨fun b o q n hb hc => U.keep b o (old b o q hc) (off_none n) hb ((fun y => nomatch y)), fun b o q n hb hc => U.slot b o (old b o q hc) (off_none n) hb ((fun y => nomatch y)), fun b o q n hc => U.free b o (old b o q hc) (off_none n) ((fun y => nomatch y)),
    fun b o q hc => U.there b o (old b o q hc) ((fun y => nomatch y)), fun b xs q => U.tups b xs (st q (fun _ y => nomatch y)), fun b o u q => U.frzs b o u (st q (fun _ y => nomatch y)), fun b ps q => U.tbls b ps (st q (fun _ y => nomatch y))⟩ I9.hok I9.bare fun b hb => ?_
  have hb := (mem_young.mp hb).2
  exact ⟨.inr (Nat.le_trans hs hb), Nat.ne_of_gt (Nat.lt_of_lt_of_le hlt hb), fun x c e => Nat.ne_of_lt (Nat.lt_of_lt_of_le (hcl x c e) hb), fun p hp => Nat.ne_of_lt (Nat.lt_of_lt_of_le (hpn p hp) hb)⟩
end
section
variable {K : PySem.W.Frag} {aS C : Addr} {H : Hp} {A0 A1 : A0T} {O : List Nat} {σ : L2.St} {sv : Ev} {n : Nat} {φ : Heap → Prop}
theorem sta_off (hT : TabC.T = []) (st : StA K aS H n) (hC : H C = some (.ext φ)) : StA K aS (offH C H) n := by
  obtain ⟨a0, cs, i, g, m, d, e, h1, ⟨o, h2⟩, h3, h4, h5, h6, h7, h8, h9⟩ := st
  have al : ∀ {b : Addr} {u : HO}, H b = some u → (∀ φ, u ≠ .ext φ) → offH C H b = some u := fun {b u} y hu => by
    rw [off_ne fun z => by rw [z, hC] at y; exact hu φ (Option.some.inj y).symm]
    exact y
  refine ⟨a0, cs, i, g, m, d, al e ((fun _ y => nomatch y)), h1, ⟨o, al h2 (fun _ y => nomatch y)⟩, h3, h4, h5, h6, h7, h8, ⟨fun p hp => ?_, fun _ _ _ => trivial⟩⟩
  rw [hT] at hp
  exact nomatch hp
theorem sub_off {A A' : AS} (hC : H C = some (.ext φ)) (hA : A C) (le : ∀ b, A' b → A b) : Sub K H (offH C H) A A' := by
  have k : ∀ {b u}, ¬ A b → H b = some u → offH C H b = some u := fun {b u} hn e => by
    rw [off_ne fun z => hn (by rw [z]; exact hA)]
    exact e
  refine ⟨fun b xs h q => ⟨fun y => h (le b y), k h q⟩, fun b xs q => q.elim (fun q => .inl ?_) .inr, fun b ys h q => ⟨fun y => h (le b y), q.imp (fun q => k h q) fun ⟨o, q⟩ => ⟨o, k h q⟩⟩, fun b ys h q => ⟨fun y => h (le b y), q.imp (fun q => k h q) fun ⟨o, q⟩ => ⟨o, k h q⟩⟩, fun b _ _ _ h q => ⟨fun y => h (le b y), k h q⟩, fun b u _ h q => ⟨fun y => h (le b y), k h q⟩⟩
  have q : H b = some (.tup xs) := q
  show offH C H b = some (.tup xs)
  rw [off_ne fun z => by rw [z, hC] at q; cases q]
  exact q
theorem sr_off (hT : TabC.T = []) (S : SR K aS O A0 (bare O σ H) σ H sv n) (hC : H C = some (.ext φ)) (hA : A0.p C) (le : ∀ b, A1.p b → A0.p b ∧ b ≠ C) (hz : A1.z = A0.z) : SR K aS O A1 (bare O σ (offH C H)) σ (offH C H) sv n := by
  have leA : ∀ b, AV aS A1 O σ b → AV aS A0 O σ b := fun b y => y.imp (fun y => (le b y).1) id
  have S1 : Sub K H (offH C H) (AV aS A0 O σ) (AV aS A1 O σ) := sub_off hC (.inl hA) leA
  refine ⟨S.len, fun i d e hi => ?_, fun i hi => ?_, S.ds, fun b u h _ => .of (bare_some h), sta_off hT S.st hC, fun b h => ?_, fun h a e => S.pn h a (hz ▸ e)⟩
  · obtain ⟨v, e2, r⟩ := S.sh i d e hi
    exact ⟨v, e2, Rep.mono S1 d v r⟩
  · obtain ⟨d, a, e1, e2, e3, e4, e5, e6⟩ := S.ow i hi
    have hne : a ≠ C := fun z => e4 (z ▸ hA)
    refine ⟨d, a, e1, e2, bare_own ⟨i, hi, e2⟩, fun y => e4 (le a y).1, e5, ?_⟩
    cases d with
    | lst ds => obtain ⟨xs, e, q⟩ := e6; exact ⟨xs, by rw [off_ne hne]; exact e, RepL.mono S1 _ _ q⟩
    | dic ds => obtain ⟨xs, e, q⟩ := e6; exact ⟨xs, by rw [off_ne hne]; exact e, RepK.mono S1 _ _ q⟩
    | dmx ds => obtain ⟨xs, e, q⟩ := e6; exact ⟨xs, by rw [off_ne hne]; exact e, RepP.mono S1 _ _ q⟩
    | obj C ds => obtain ⟨dx, xs, e, q⟩ := e6; exact ⟨dx, xs, by rw [off_ne hne]; exact e, RepF.mono S1 _ _ q⟩
    | _ => exact e6.elim
  · obtain ⟨h1, h2⟩ := le b h
    obtain ⟨u, hu⟩ := S.av b h1
    exact ⟨u, by rw [off_ne h2]; exact hu⟩
end
end DL.GF
namespace MD
open L2 PySem PySem.Spec PyProof.Rows
/-! ### the rows of a locked mixed dict -/
section
variable {Y : Cx} {ps : List (Addr × Obj)} {τ : L2.St} {G : Hp} {t : Shared} {d : Addr} {o : Obj} {ys : List EntV}
end
end MD
namespace MD
open PySem PySem.Spec PyProof.Rows L2
/-! ### list(d), d a mixed dict; dict(pairs) with keys of all sorts -/
section
variable {prog : Program} {w : World} {d : Addr} {xs : List Ent}
end
section
variable {X : Cx}
end
/-! pairs -/
section
variable {prog : Program} {w : World} {A : Around} {E : Value → Shared → Prop}
end
section
variable {X : Cx} {pins : List (Addr × Obj)} {σ : L2.St} {H : Hp} {s : Shared}
end
end MD
namespace DL
open PySem PySem.Spec PyProof.Rows L2
variable [TabC]
/-! ### a mixed dict that is walked is locked meanwhile -/
section
variable {K : PySem.W.Frag} {aS a b m : Addr} {H H' H0 : Hp} {A : AS} {A0 : A0T} {O : List Nat} {σ σ' : L2.St} {s s' : Ev} {n n' : Nat} {ys : List MD.EntV} {o : Obj}
end
end DL
namespace DL
open PySem PySem.Spec PyProof.Rows L2
variable [TabC]
/-! ### walks over a mixed dict -/
section
variable {X : Cx} {E : XK} {O OB OL vs hid : List Nat} {tg e iter kx : Expr} {ifs : List Expr} {m me mk : EM D} {mi : EM (List D)} {mt : EM Bool} {mb : SM} {g : DG} {scope : Scope} {pos : Pos}
end
/-! read as plain functions -/
/-! list(d), dict(pairs) -/
def putK (acc : List (D × D)) (p : D × D) : List (D × D) := putM acc ((nkey p.1).getD .none) p.1 p.2
end DL
namespace DL
open PySem PySem.Spec PyProof.Rows L2
variable [TabC]
/-! ### a thing that is kept aside, told by a handle: its addresses (S), what stands there (C) -/
structure Hid where
  S : Type
  C : Type
  own : S → Addr → Prop
  hd : S → V
  at_ : PySem.W.Frag → Addr → Hp → AS → S → C → Prop
  vw : C → D
  no : D → Bool
  dom : ∀ {K aS H A st c b}, at_ K aS H A st c → own st b → ∃ u, H b = some u ∧ (∀ ps, u ≠ .tbl ps) ∧ ∀ xs, u ≠ .tup xs
  mono : ∀ {K aS H H' A A' st c}, Sub K H H' A A' → (∀ b u, own st b → H b = some u → H' b = some u) → at_ K aS H A st c → at_ K aS H' A' st c
  rep : ∀ {K aS H A A' st c}, at_ K aS H A st c → (∀ b, A' b → A b ∧ ¬ own st b) → Rep K aS H A' (vw c) (hd st)
  far : ∀ {K aS H A A' st c d v}, at_ K aS H A st c → (∀ b, A b → A' b ∨ own st b) → no d = true → Rep K aS H A' d v → Rep K aS H A d v
structure DEV (Z : Hid) where
  nx : Z.C → Ev → Nat → Prop
  rt : D → Z.C → Nat → Prop
  bk : Z.C → Ev → Nat → Prop := fun _ _ _ => False
  ct : Z.C → Ev → Nat → Prop := fun _ _ _ => False
abbrev EMV (Z : Hid) (α : Type) := Z.S → (Z.C → XQ) → Z.C → Ev → Nat → (α → Z.C → Nat → Prop) → Prop
abbrev SMV (Z : Hid) := Z.S → (Z.C → XQ) → DEV Z → Z.C → Ev → Nat → Prop
section
variable {Z : Hid} {K : PySem.W.Frag} {E : XK} {aS : Addr} {H H' H0 : Hp} {A : AS} {A0 : A0T} {O O' : List Nat} {σ : L2.St} {s : Ev} {n n' : Nat} {st : Z.S} {c c' : Z.C} {xq : Z.C → XQ}
/-- the heap without the thing -/
noncomputable def cut (Z : Hid) (st : Z.S) (H : Hp) : Hp := fun b => @ite _ (Z.own st b) (Classical.propDecidable _) none (H b)
theorem cut_own {b : Addr} (h : Z.own st b) : cut Z st H b = none := by unfold cut; rw [if_pos h]
theorem cut_not {b : Addr} (h : ¬ Z.own st b) : cut Z st H b = H b := by unfold cut; rw [if_neg h]
theorem cut_some {b : Addr} {u : HO} (h : cut Z st H b = some u) : H b = some u := by
  by_cases z : Z.own st b
  · rw [cut_own z] at h; cases h
  · rw [cut_not z] at h; exact h
end
/-! ### what knows nothing of the thing -/
section
variable {Z : Hid} {X : Cx} {E : XK} {O O' O'' OL : List Nat} {e : Expr} {es : List Expr} {st : Stmt} {rest : List Stmt} {m : EM D} {ml : EM (List D)} {mt : EM Bool} {ms : SM}
end
end DL
namespace DL
open PySem PySem.Spec PyProof.Rows L2
variable [TabC]
/-! ### a look at the thing: the handle's slot shows it -/
section
variable {Z : Hid} {K : PySem.W.Frag} {E : XK} {aS : Addr} {H H' H0 : Hp} {A A' : AS} {A0 : A0T} {O O' : List Nat} {σ : L2.St} {s : Ev} {n n' j : Nat} {st : Z.S} {c c' : Z.C} {xq : Z.C → XQ}
/-- what is raised while it is looked at -/
def gx (Z : Hid) (xq : XQ) : XQ := fun x n => (x.2.all fun p => Z.no p.2) = true ∧ xq x n
end
section
variable {Z : Hid} {X : Cx} {E : XK} {O O' O'' OL : List Nat} {e a b : Expr} {es : List Expr} {st : Stmt} {rest : List Stmt} {m : EM D} {ml : EM (List D)} {mt : EM Bool} {j : Nat} {pos : Pos}
/-! ### statements -/
variable {ms mr ma mb : SMV Z} {me : EMV Z D} {mc : EMV Z Bool} {mls : EMV Z (List D)} {i : Nat}
/-! ### a new thing that a slot owns -/
end
end DL
namespace DL
open PySem PySem.Spec PyProof.Rows L2
variable [TabC]
/-! ### expressions that may change the thing -/
section
variable {Z : Hid} {K : PySem.W.Frag} {aS : Addr} {H H' H1 H2 : Hp} {A : AS} {d : D} {ds : List D} {v : V} {vs : List V}
end
section
variable {Z : Hid} {X : Cx} {E : XK} {O O' O'' OL : List Nat} {e a b : Expr} {es rest : List Expr} {me mb : EMV Z D} {ml : EMV Z (List D)} {mt tA tB : EMV Z Bool} {pos p : Pos}
end
end DL
namespace DL
open PySem PySem.Spec PyProof.Rows L2
variable [TabC]
/-! ### defs that may change the thing -/
structure FSpV (Z : Hid) where
  run : Z.S → Z.C → List D → Nat → (D → Z.C → Nat → Prop) → (Z.C → XQ) → Prop
  mn : ∀ st c ds n Q Q' xq, (∀ d c' n', Q d c' n' → Q' d c' n') → run st c ds n Q xq → run st c ds n Q' xq
section
variable {Z : Hid} {K : PySem.W.Frag} {E : XK} {aS : Addr} {H H' H0 : Hp} {A : AS} {A0 : A0T} {O O' : List Nat} {σ : L2.St} {s : Ev} {n n' len : Nat} {st : Z.S} {c c' : Z.C} {xq : Z.C → XQ}
end
section
variable {Z : Hid} {X : Cx} {E : XK} {O O' O'' OL : List Nat} {e a b : Expr} {es rest : List Expr} {me mb : EMV Z D} {ml : EMV Z (List D)} {pos p : Pos} {k k' : Nat} {ps : List Str} {sp : FSpV Z}
end
section
variable {Z : Hid} {P : Program} {w : World} {K : PySem.W.Frag} {mg : Str → Option Value} {base : Heap} {x qual : Str} {params : Arguments} {body : List Stmt} {scope : Scope} {dvs : List V} {kws : List (Str × V)} {f : Addr} {fd : FuncData}
end
end DL
namespace DL
open PySem PySem.Spec PyProof.Rows L2
variable [TabC]
/-! ### an evening: an instance with what stands here and the list of what stood earlier -/
mutual
/-- nothing in it is an evening or a list -/
def noEv : D → Bool
  | .lst _ => false
  | .tup ds => noEvL ds
  | .dic kvs => noEvK kvs
  | .dmx kvs => noEvP kvs
  | .obj _ fs => (fs.lookup ("earlier" : Str)).isNone && noEvF fs
  | .exc _ fs => noEvF fs
  | _ => true
def noEvL : List D → Bool
  | [] => true
  | d :: ds => noEv d && noEvL ds
def noEvK : List (Key × D) → Bool
  | [] => true
  | (_, d) :: ds => noEv d && noEvK ds
def noEvF : List (Str × D) → Bool
  | [] => true
  | (_, d) :: ds => noEv d && noEvF ds
def noEvP : List (D × D) → Bool
  | [] => true
  | (k, d) :: ds => noEv k && noEv d && noEvP ds
end
section
variable {K : PySem.W.Frag} {aS : Addr} {H : Hp} {A A' : AS}
mutual
theorem Rep.farE (h1 : ∀ b ys, A b → Rd H b (.dK ys) → A' b) (h2 : ∀ b m ys, A b → Rd H b (MD.MixO TabC.w m ys) → A' b) (h3 : ∀ b C dx (ys : List (Str × V)), A b → H b = some (.ins C dx ys) → ys.lookup ("earlier" : Str) = none → A' b) (h4 : ∀ b u, A b → XO u → H b = some u → A' b) : ∀ (d : D) (v : V), noEv d = true → Rep K aS H A' d v → Rep K aS H A d v
  | .non, v, _, h => by rw [Rep] at h ⊢; exact h
  | .bl b, v, _, h => by rw [Rep] at h ⊢; exact h
  | .int i, v, _, h => by rw [Rep] at h ⊢; exact h
  | .str x, v, _, h => by rw [Rep] at h ⊢; exact h
  | .raw u, v, n, h => by rw [Rep] at h ⊢; exact h
  | .st, v, n, h => by rw [Rep] at h ⊢; exact h
  | .lst ds, v, n, h => by simp [noEv] at n
  | .tup ds, v, n, h => by
    rw [noEv] at n
    rw [Rep] at h ⊢
    obtain ⟨a, xs, e, q, r⟩ := h
    exact ⟨a, xs, e, q, RepL.farE h1 h2 h3 h4 ds xs n r⟩
  | .dic kvs, v, n, h => by
    rw [noEv] at n
    rw [Rep] at h ⊢
    obtain ⟨a, ys, e, na, q, r⟩ := h
    exact ⟨a, ys, e, fun z => na (h1 a ys z q), q, RepK.farE h1 h2 h3 h4 kvs ys n r⟩
  | .dmx kvs, v, n, h => by
    rw [noEv] at n
    rw [Rep] at h ⊢
    obtain ⟨a, ys, e, na, q, r⟩ := h
    exact ⟨a, ys, e, fun z => na (h2 a _ ys z q), q, RepP.farE h1 h2 h3 h4 kvs ys n r⟩
  | .obj C fs, v, n, h => by
    rw [noEv, Bool.and_eq_true] at n
    rw [Rep] at h ⊢
    obtain ⟨a, dx, ys, e, na, q, r⟩ := h
    refine ⟨a, dx, ys, e, fun z => na (h3 a _ dx ys z q ?_), q, RepF.farE h1 h2 h3 h4 fs ys n.2 r⟩
    rcases repF_look ("earlier" : Str) r with z | ⟨d, v, z, _⟩
    · exact z.2
    · have := n.1
      rw [z] at this
      cases this
  | .exc C fs, v, n, h => by
    rw [noEv] at n
    rw [Rep] at h ⊢
    obtain ⟨a, e, na, h⟩ := h
    rcases h with ⟨h, z⟩ | ⟨x, ys, h, nx, hx, r⟩
    · exact ⟨a, e, fun z => na (h4 a _ z (.ex _ _ _) h), .inl ⟨h, z⟩⟩
    · exact ⟨a, e, fun z => na (h4 a _ z (.ex _ _ _) h), .inr ⟨x, ys, h, fun z => nx (h4 x _ z (.xd ys) hx), hx, RepF.farE h1 h2 h3 h4 fs ys n r⟩⟩
theorem RepL.farE (h1 : ∀ b ys, A b → Rd H b (.dK ys) → A' b) (h2 : ∀ b m ys, A b → Rd H b (MD.MixO TabC.w m ys) → A' b) (h3 : ∀ b C dx (ys : List (Str × V)), A b → H b = some (.ins C dx ys) → ys.lookup ("earlier" : Str) = none → A' b) (h4 : ∀ b u, A b → XO u → H b = some u → A' b) : ∀ (ds : List D) (vs : List V), noEvL ds = true → RepL K aS H A' ds vs → RepL K aS H A ds vs
  | [], vs, _, h => by rw [RepL] at h ⊢; exact h
  | d :: ds, vs, n, h => by
    rw [noEvL, Bool.and_eq_true] at n
    rw [RepL] at h ⊢
    obtain ⟨v, vr, e, r, q⟩ := h
    exact ⟨v, vr, e, Rep.farE h1 h2 h3 h4 d v n.1 r, RepL.farE h1 h2 h3 h4 ds vr n.2 q⟩
theorem RepK.farE (h1 : ∀ b ys, A b → Rd H b (.dK ys) → A' b) (h2 : ∀ b m ys, A b → Rd H b (MD.MixO TabC.w m ys) → A' b) (h3 : ∀ b C dx (ys : List (Str × V)), A b → H b = some (.ins C dx ys) → ys.lookup ("earlier" : Str) = none → A' b) (h4 : ∀ b u, A b → XO u → H b = some u → A' b) : ∀ (ds : List (Key × D)) (vs : List (Key × V)), noEvK ds = true → RepK K aS H A' ds vs → RepK K aS H A ds vs
  | [], vs, _, h => by rw [RepK] at h ⊢; exact h
  | (k, d) :: ds, vs, n, h => by
    rw [noEvK, Bool.and_eq_true] at n
    rw [RepK] at h ⊢
    obtain ⟨v, vr, e, r, q⟩ := h
    exact ⟨v, vr, e, Rep.farE h1 h2 h3 h4 d v n.1 r, RepK.farE h1 h2 h3 h4 ds vr n.2 q⟩
theorem RepF.farE (h1 : ∀ b ys, A b → Rd H b (.dK ys) → A' b) (h2 : ∀ b m ys, A b → Rd H b (MD.MixO TabC.w m ys) → A' b) (h3 : ∀ b C dx (ys : List (Str × V)), A b → H b = some (.ins C dx ys) → ys.lookup ("earlier" : Str) = none → A' b) (h4 : ∀ b u, A b → XO u → H b = some u → A' b) : ∀ (ds : List (Str × D)) (vs : List (Str × V)), noEvF ds = true → RepF K aS H A' ds vs → RepF K aS H A ds vs
  | [], vs, _, h => by rw [RepF] at h ⊢; exact h
  | (k, d) :: ds, vs, n, h => by
    rw [noEvF, Bool.and_eq_true] at n
    rw [RepF] at h ⊢
    obtain ⟨v, vr, e, r, q⟩ := h
    exact ⟨v, vr, e, Rep.farE h1 h2 h3 h4 d v n.1 r, RepF.farE h1 h2 h3 h4 ds vr n.2 q⟩
theorem RepP.farE (h1 : ∀ b ys, A b → Rd H b (.dK ys) → A' b) (h2 : ∀ b m ys, A b → Rd H b (MD.MixO TabC.w m ys) → A' b) (h3 : ∀ b C dx (ys : List (Str × V)), A b → H b = some (.ins C dx ys) → ys.lookup ("earlier" : Str) = none → A' b) (h4 : ∀ b u, A b → XO u → H b = some u → A' b) : ∀ (ds : List (D × D)) (vs : List MD.EntV), noEvP ds = true → RepP K aS H A' ds vs → RepP K aS H A ds vs
  | [], vs, _, h => by rw [RepP] at h ⊢; exact h
  | (k, d) :: ds, vs, n, h => by
    rw [noEvP, Bool.and_eq_true, Bool.and_eq_true] at n
    rw [RepP] at h ⊢
    obtain ⟨nk, kv, v, vr, e, z, rk, r, q⟩ := h
    exact ⟨nk, kv, v, vr, e, z, Rep.farE h1 h2 h3 h4 k kv n.1.1 rk, Rep.farE h1 h2 h3 h4 d v n.1.2 r, RepP.farE h1 h2 h3 h4 ds vr n.2 q⟩
end
end
structure EvAt (K : PySem.W.Frag) (aS : Addr) (H : Hp) (A : AS) (st : Addr × Addr) (c : D × List D) : Prop where
  ne : st.1 ≠ st.2
  ex : ∃ dx v xs, H st.1 = some (.ins (He.ga K "Evening") dx [("here", v), ("earlier", .ref st.2)]) ∧ H st.2 = some (.lst xs) ∧ Rep K aS H A c.1 v ∧ RepL K aS H A c.2 xs
def evD (c : D × List D) : D := .obj "Evening" [("here", c.1), ("earlier", .lst c.2)]
def EvZ : Hid where
  S := Addr × Addr
  C := D × List D
  own st b := b = st.1 ∨ b = st.2
  hd st := .ref st.1
  at_ := EvAt
  vw := evD
  no := noEv
  dom := by
    rintro K aS H A st c b ⟨_, dx, v, xs, e1, e2, _⟩ (rfl | rfl)
    · exact ⟨_, e1, fun _ z => (nomatch z), fun _ z => (nomatch z)⟩
    · exact ⟨_, e2, fun _ z => (nomatch z), fun _ z => (nomatch z)⟩
  mono := by
    rintro K aS H H' A A' st c S k ⟨ne, dx, v, xs, e1, e2, r1, r2⟩
    exact ⟨ne, dx, v, xs, k _ _ (.inl rfl) e1, k _ _ (.inr rfl) e2, Rep.mono S _ _ r1, RepL.mono S _ _ r2⟩
  rep := by
    rintro K aS H A A' st c ⟨ne, dx, v, xs, e1, e2, r1, r2⟩ h
    have le : ∀ b, A' b → A b := fun b z => (h b z).1
    unfold evD
    rw [Rep]
    refine ⟨st.1, dx, _, rfl, fun z => (h _ z).2 (.inl rfl), e1, ?_⟩
    rw [RepF]
    refine ⟨_, _, rfl, Rep.mono (sub_le le) _ _ r1, ?_⟩
    rw [RepF]
    refine ⟨_, _, rfl, ?_, by rw [RepF]⟩
    rw [Rep]
    exact ⟨st.2, xs, rfl, fun z => (h _ z).2 (.inr rfl), e2, RepL.mono (sub_le le) _ _ r2⟩
  far := by
    rintro K aS H A A' st c d v ⟨ne, dx, w, xs, e1, e2, _⟩ h n r
    refine Rep.farE (fun b ys z q => ?_) (fun b m ys z q => ?_) (fun b C dx ys z q l => ?_) (fun b u z hu q => ?_) d v n r
    · rcases h b z with z | rfl | rfl
      · exact z
      · rcases q with q | ⟨_, q⟩ <;> rw [e1] at q <;> cases q
      · rcases q with q | ⟨_, q⟩ <;> rw [e2] at q <;> cases q
    · rcases h b z with z | rfl | rfl
      · exact z
      · rcases q with q | ⟨_, q⟩ <;> rw [e1] at q <;> (unfold MD.MixO at q; cases q)
      · rcases q with q | ⟨_, q⟩ <;> rw [e2] at q <;> (unfold MD.MixO at q; cases q)
    · rcases h b z with z | rfl | rfl
      · exact z
      · rw [e1] at q
        cases q
        cases l
      · rw [e2] at q
        cases q
    · rcases h b z with z | rfl | rfl
      · exact z
      · rw [e1] at q
        exact (hu.nins _ _ _ (Option.some.inj q).symm).elim
      · rw [e2] at q
        exact (hu.nlst _ (Option.some.inj q).symm).elim
/-! ### its methods that change it -/
section
variable {X : Cx} {E : XK} {O O' O'' OL : List Nat} {e o : Expr} {es rest : List Expr} {mo : EM D} {me : EMV EvZ D} {ml : EMV EvZ (List D)} {pos p apos : Pos} {m : Str} {k k' j : Nat} {ps : List Str} {sp : FSpV EvZ} {dds : List D}
end
/-! ### what changes it -/
section
variable {Z : Hid} {K : PySem.W.Frag} {aS : Addr} {H H' H0 : Hp} {A0 : A0T} {O : List Nat} {σ : L2.St} {s : Ev} {n : Nat} {st : Addr × Addr} {c c' : D × List D} {b : Addr} {o o' : HO}
theorem StA.poke (h : StA K aS H n) (ho : H b = some o) (hb : b ≠ aS) (n1 : ∀ ps, o ≠ .tbl ps) (n2 : ∀ c q, o ≠ LamX.CodeO c q) (n3 : ∀ ps, o' ≠ .tbl ps) (n4 : ∀ ob u, o ≠ .frz ob u) : StA K aS (L2.upd H b o') n := by
  obtain ⟨a0, cs, i', g, m, d', z1, z2, ⟨ob, z3⟩, z4, z5, z6, z7, z8, z9, zt⟩ := h
  refine ⟨a0, cs, i', g, m, d', by rw [upd_ne (Ne.symm hb)]; exact z1, z2, ⟨ob, ?_⟩, z4, z5, z6, z7, z8, z9, tabs_poke zt ho n1 n2 n3⟩
  rw [upd_ne]
  · exact z3
  · intro z
    rw [z, ho] at z3
    cases z3
    exact n4 _ _ rfl
end
section
variable {X : Cx} {E : XK} {O O' O'' OL : List Nat} {e : Expr} {me : EMV EvZ D} {pos : Pos} {j : Nat} {x : Str}
theorem hnd {K : PySem.W.Frag} {aS : Addr} {H H0 : Hp} {A0 : A0T} {σ : L2.St} {s : Ev} {n : Nat} {v : V} (S : SR K aS O A0 H0 σ H s n) (hj : j ∉ O) (e : s[j]? = some (some (.raw v))) : σ[j]? = some (some v) := by
  obtain ⟨u, h, r⟩ := S.sh j _ e hj
  rw [Rep] at r
  rw [h, r]
end
end DL
/-! [e for x in g(..)] -/
namespace DL.GF
open PySem PySem.Spec PyProof.Rows GenW L2
variable [TabC]
theorem held_run {α : Type} {M : Model} {A : Around} {t : Sem α} {Q : α → Shared → Prop} {E : Value → Shared → Prop} {s : Shared} (h : wpAny M A t Q (fun _ _ => False) (mute s)) : wpAny M A t (fun a => Awoke s (Q a)) E s :=
  wpAny_mono (wpAny_held h) (fun _ _ q => q) fun _ s' q => by
    obtain ⟨s1, q, _⟩ := q.get
    exact q.elim
section
variable {X : Cx} {pins : List (Addr × Obj)} {O : List Nat} {A0 A1 : A0T} {H0 H H' Hn : Hp} {ys : List DL.D} {σ : L2.St} {s s' z s9 : Shared} {sv : Ev} {n n9 : Nat} {Pr Pr' : AS} {G : GT} {C Dn : Addr}
/-- more is kept for oneself -/
theorem Hd.grow (h : Hd X G pins O A0 H0 ys σ H s sv n Pr) (I' : Inv X pins σ H' s') (up : ∀ b u, H b = some u → H' b = some u) (new : ∀ b, A1.p b → A0.p b ∨ H b = none) (S' : SR X.K G.aS O (cat A1 Pr) (bare O σ H') σ H' sv n) (hgens : s'.gens = s.gens) :
    Hd X G pins O A1 H0 ys σ H' s' sv n Pr := by
  have ga : GenAt G Pr H' := by
    obtain ⟨y, φ, e, q⟩ := h.hd.ga
    exact ⟨y, φ, up _ _ e, q⟩
  obtain ⟨gs, Gl, Hl, Al, hg1, sl, k1, k2, k3, k4⟩ := h.hd.sl
  refine ⟨I', S', h.le.trans fun b u e _ => .of ?_, ⟨h.hd.el, ?_, ga, fun b y => ?_, gs, Gl, Hl, Al, by rw [hgens]; exact hg1, sl, fun b u e hn => (k1 b u e hn).trans fun v hv => .of (up b v hv), fun b xs e => up _ _ (k2 b xs e), fun b y => ?_, by rw [hgens]; exact k4⟩, by rw [hgens]; exact h.gsz, fun b y => ⟨fun y1 => ?_, (h.prA b y).2⟩⟩
  · by_cases y : ∃ i, i ∈ O ∧ σ[i]? = some (some (.ref b))
    · rw [bare_own y] at e; cases e
    · rw [bare_not y] at e ⊢; exact up b u e
  · obtain ⟨_, φ, e, q⟩ := ga
    obtain ⟨y, _⟩ := I'.hok _ _ e
    exact q _ y
  · obtain ⟨u, hu⟩ := h.hd.on b y
    exact ⟨u, up _ _ hu⟩
  · rcases y with y | y
    · rcases new b y with y | y
      · exact k3 b (.inl y)
      · by_cases ha : Al b
        · exact .inl ha
        · refine .inr (Option.eq_none_iff_forall_ne_some.mpr fun u hu => ?_)
          obtain ⟨v, hv⟩ := (k1 b u hu ha).dom
          rw [y] at hv
          cases hv
    · exact k3 b (.inr y)
  · rcases new b y1 with y2 | y2
    · exact (h.prA b y).1 y2
    · obtain ⟨u, hu⟩ := h.hd.on b y
      rw [y2] at hu
      cases hu
/-- the set of what a block changes, too -/
abbrev PX (Dn C : Addr) (Pr : AS) : AS := fun b => Pr b ∨ b = Dn ∨ b = C
abbrev AX (A0 : A0T) (Dn C : Addr) : A0T := ⟨fun b => A0.p b ∨ b = Dn ∨ b = C, A0.z⟩
/-- a turn of the block -/
theorem hd_turn (el : Elder X pins G.L) (S' : SR X.K G.aS O (cat (AX A0 Dn C) Pr') (bare O σ H') σ H' sv n) (le' : KpS G.aS H0 (bare O σ H')) (prA' : ∀ b, Pr' b → ¬ (AX A0 Dn C).p b ∧ b ≠ G.aS ∧ H0 b = none) (ga : GenAt G Pr' H') (on : ∀ b, Pr' b → ∃ u, H' b = some u)
    {gs' : GenState} {Gl' : Array GenState} (hg : s9.gens[G.g]? = some gs') (sl : Sleep G ys gs' Gl' H' (AV G.aS (AX A0 Dn C) O σ) Pr') (k4 : Slp (fun i => G.g < i) Gl' s9.gens) (I9 : Inv X pins σ Hn s9) (kk : ∀ b u, H' b = some u → b ≠ Dn → b ≠ C → b ≠ G.aS → Kp1 u (Hn b))
    (kt : ∀ b xs, H' b = some (.tup xs) → Hn b = some (.tup xs)) (st : StA X.K G.aS Hn n9) (oD : ∃ u, Hn Dn = some u) (oC : ∃ u, Hn C = some u) (hD0 : H0 Dn = none) (hC0 : H0 C = none) (hA0 : ¬ A0.p Dn ∧ ¬ A0.p C) (hDs : Dn ≠ G.aS) (hCs : C ≠ G.aS) : Hd X G pins O (AX A0 Dn C) H0 ys σ Hn s9 sv n9 Pr' := by
  have S2 : SR X.K G.aS O (cat A0 (PX Dn C Pr')) (bare O σ H') σ H' sv n := SR.less S' (fun b y => by
    rcases y with y | y | y
    · exact .inl (.inl y)
    · exact .inr y
    · exact .inl (.inr y)) rfl
  have f : Af X.K G.aS H' (PX Dn C Pr') n9 (PX Dn C Pr') Hn := ⟨fun b u e hn hb => kk b u e (fun y => hn (.inr (.inl y))) (fun y => hn (.inr (.inr y))) hb, kt, st, fun b y => .inl y, fun b y => by
    rcases y with y | y | y
    · obtain ⟨u, hu⟩ := on b y
      have p := prA' b y
      exact (kk b u hu (fun z => p.1 (.inr (.inl z))) (fun z => p.1 (.inr (.inr z))) p.2.1).dom
    · rw [y]; exact oD
    · rw [y]; exact oC⟩
  have S3 := SR.after S2 f fun b y => by
    rcases y with y | y | y
    · exact fun y2 => (prA' b y).1 (.inl y2)
    · rw [y]; exact hA0.1
    · rw [y]; exact hA0.2
  have S4 : SR X.K G.aS O (cat (AX A0 Dn C) Pr') (bare O σ Hn) σ Hn sv n9 := SR.less S3 (fun b y => by
    rcases y with (y | y) | y
    · exact .inl y
    · exact .inr (.inr y)
    · exact .inr (.inl y)) rfl
  have ga9 : GenAt G Pr' Hn := by
    obtain ⟨y, φ, e, q⟩ := ga
    have p := prA' _ y
    exact ⟨y, φ, kk _ _ e (fun z => p.1 (.inr (.inl z))) (fun z => p.1 (.inr (.inr z))) p.2.1, q⟩
  refine ⟨I9, S4, fun b u hu hb => ?_, ⟨el, ?_, ga9, fun b y => f.on b (.inl y), gs', Gl', H', AV G.aS (AX A0 Dn C) O σ, hg, sl, fun b u e hn => kk b u e (fun y => hn (.inl (.inr (.inl y)))) (fun y => hn (.inl (.inr (.inr y)))) fun y => hn (by rw [y]; exact AV.st), kt, fun b y => .inl y, k4⟩, (Array.getElem?_eq_some_iff.mp hg).1, prA'⟩
  · have k0 := le' b u hu hb
    have no : ¬ ∃ i, i ∈ O ∧ σ[i]? = some (some (.ref b)) := fun y => by
      rw [bare_own y] at k0
      obtain ⟨v, hv⟩ := k0.dom
      cases hv
    rw [bare_not no] at k0 ⊢
    exact k0.trans fun v hv => kk b v hv (fun y => by rw [y, hD0] at hu; cases hu) (fun y => by rw [y, hC0] at hu; cases hu) hb
  · obtain ⟨_, φ, e, q⟩ := ga9
    obtain ⟨y, _⟩ := I9.hok _ _ e
    exact q _ y
end
section
variable {X : Cx} {E : XK} {O ws : List Nat} {e0 e tg : Expr} {es ifs : List Expr} {ml : EM (List DL.D)} {me : EM DL.D} {mt : EM Bool} {g : DG} {pos pos' p : Pos} {x : Str} {ps : List Str} {k k' : Nat} {gf : List DL.D → List DL.D → Prop} {scope : Scope} {own : List (Str × Nat)}
theorem mn_eGen {len : Nat} (h : Mn ml) : Mn (eGen len gf ml) := fun xq s n Q Q' hq w => h _ _ _ _ _ (fun ds n1 ⟨h1, ys, h2, h3⟩ => ⟨h1, ys, h2, hq _ _ h3⟩) w
/-- what stands at the loop's head -/
structure LcJ (X : Cx) (G : GT) (pins : List (Addr × Obj)) (O : List Nat) (A0 : A0T) (H0 Hd0 : Hp) (σ : L2.St) (sv : Ev) (Dn C : Addr) (own : List (Str × Nat)) (g : DG) (mt : EM Bool) (me : EM DL.D) (Qf : List DL.D → Nat → Prop) (ys : List DL.D) (H : Hp) (s : Shared) (Pr : AS) (n : Nat) (acc : List DL.D) (xs : List V) (φ : Heap → Prop) : Prop where
  hd : Hd X G pins O (AX A0 Dn C) H0 ys σ H s sv n Pr
  kp : KpS G.aS Hd0 H
  pr : ∀ b, Pr b → Hd0 b = none
  hC : H C = some (.ext φ)
  ns : ∀ h, φ h → ∃ m, h.Ns C m
  hD : H Dn = some (.lst xs)
  rl : RepL X.K G.aS H (AV G.aS (cat (AX A0 Dn C) Pr) O σ) acc xs
  lim : acc.length + ys.length ≤ LIM
  w : sLcL g mt me (fun _ _ => False) (hideL sv (own.map (·.2))) ys n acc Qf
/-- a turn's end -/
theorem lcj_end {G : GT} {A0 : A0T} {H0 Hd0 H' H10 : Hp} {pins pb : List (Addr × Obj)} {σ σ7 : L2.St} {sv : Ev} {Dn C : Addr} {Qf : List DL.D → Nat → Prop} {ys acc' : List DL.D} {xs' : List V} {z s10 : Shared} {Pr' : AS} {n n10 : Nat} {φ : Heap → Prop} {ce : Env} (hce : ce.locals = C)
    (el : Elder X pins G.L) (S' : SR X.K G.aS O (cat (AX A0 Dn C) Pr') (bare O σ H') σ H' sv n) (le' : KpS G.aS H0 (bare O σ H')) (prA' : ∀ b, Pr' b → ¬ (AX A0 Dn C).p b ∧ b ≠ G.aS ∧ H0 b = none) (ga : GenAt G Pr' H') (on : ∀ b, Pr' b → ∃ u, H' b = some u) (kp' : KpS G.aS Hd0 H') (pr' : ∀ b, Pr' b → Hd0 b = none)
    {gs' : GenState} {Gl' : Array GenState} (hg : s10.gens[G.g]? = some gs') (sl : Sleep G ys gs' Gl' H' (AV G.aS (AX A0 Dn C) O σ) Pr') (k4 : Slp (fun i => G.g < i) Gl' s10.gens) (I' : Inv X pins σ H' z) (hC' : H' C = some (.ext φ)) (f : FpOk X pins H10 C) (hlt : X.env.locals < C) (hsz : X.s_0.heap.objs.size ≤ C) (hcl : ∀ x c, X.env.cells.lookup x = some c → c < C) (hpn : ∀ p ∈ X.pn ++ pins, p.1 < C)
    (I10 : Inv (X.blk (atC C z) (offH C H') scope ce []) pb σ7 H10 s10) (kk : ∀ b u, offH C H' b = some u → b ≠ Dn → b ≠ G.aS → Kp1 u (H10 b)) (kt : ∀ b xs, offH C H' b = some (.tup xs) → H10 b = some (.tup xs)) (st : StA X.K G.aS H10 n10) (hD : H10 Dn = some (.lst xs')) (hD0 : H0 Dn = none) (hC0 : H0 C = none) (hDd : Hd0 Dn = none) (hCd : Hd0 C = none) (hA0 : ¬ A0.p Dn ∧ ¬ A0.p C) (hDs : Dn ≠ G.aS) (hCs : C ≠ G.aS)
    (rl : RepL X.K G.aS H10 (AV G.aS (cat (AX A0 Dn C) Pr') O σ) acc' xs') (lim : acc'.length + ys.length ≤ LIM) (w : sLcL g mt me (fun _ _ => False) (hideL sv (own.map (·.2))) ys n10 acc' Qf) :
    ∃ H φ, LcJ X G pins O A0 H0 Hd0 σ sv Dn C own g mt me Qf ys H s10 Pr' n10 acc' xs' φ := by
  have I11 := blk_back I' hC' hsz hlt hcl hpn I10
  have hC10 : H10 C = none := f.1
  have hDC : Dn ≠ C := fun z => by
    rw [z, hC10] at hD
    cases hD
  obtain ⟨m, ⟨o, es1, ep1, ho, hd1, sk1, fi1⟩, _⟩ := I10.loc
  have ho : s10.heap.get? C = some o := by rw [← hce]; exact ho
  have k2 : ∀ b u, H' b = some u → b ≠ Dn → b ≠ C → b ≠ G.aS → Kp1 u (onH C s10.heap H10 b) := fun b u e h1 h2 h3 => by
    rw [on_ne h2]
    exact kk b u (by rw [off_ne h2]; exact e) h1 h3
  have up : ∀ b u, H10 b = some u → onH C s10.heap H10 b = some u := fun b u e => by
    rw [on_ne (ne_of_none e hC10)]
    exact e
  have t2 : ∀ b zs, H' b = some (.tup zs) → onH C s10.heap H10 b = some (.tup zs) := fun b zs e => up _ _ (kt b zs (by
    rw [off_ne fun y => ?_]
    · exact e
    · rw [y, hC'] at e
      cases e))
  have st2 : StA X.K G.aS (onH C s10.heap H10) n10 := st.upd hC10
  have hd := hd_turn el S' le' prA' ga on hg sl k4 (inv_on I11 ho f) k2 t2 st2 ⟨_, up _ _ hD⟩ ⟨_, on_same⟩ hD0 hC0 hA0 hDs hCs
  refine ⟨_, _, hd, fun b u e hb => (kp' b u e hb).trans fun v hv => k2 b v hv (fun y => by rw [y, hDd] at e; cases e) (fun y => by rw [y, hCd] at e; cases e) hb, pr', on_same, fun h q => ⟨m, o, es1, ep1, (show h.get? C = s10.heap.get? C from q).trans ho, hd1, sk1, fi1⟩, up _ _ hD, RepL.mono ?_ _ _ rl, lim, w⟩
  exact sub_kept (fun b u e _ => .of (up b u e)) (fun b zs e => up _ _ e) fun b y => .inl y
theorem vf_lcG (hT : TabC.T = []) (hc : X.calm = true) (hN : X.N.Nodup) {len : Nat} (hl : ps.length = len) (Gf : GGn X.prog X.w X.K X.mg X.base x k ps gf) (hr : Room k' X.A) (hk : k + 1 ≤ k') (hgl : Gl X x) (ha : VA Rep X E O (e0 :: es) ml) (ok : BlkOk X.N X.env.scope scope own) (hloc : ∀ y ∈ scope.names, y.2 ≠ .cell ∧ y.2 ≠ .free)
    (hown : ∀ j ∈ own.map (·.2), j ∉ O) (hws : ∀ j ∈ ws, j ∈ own.map (·.2)) (hg : ∀ c : Bk, VG (Cx.bk X scope c) O ws tg g) (ht : ∀ c : Bk, VTs (Cx.bk X scope c) EF O ifs mt) (he : ∀ c : Bk, VE (Cx.bk X scope c) EF O e me)
    (hdb : (x == ("__debug__" : Str)) = false := by decide) (hst : starEach (e0 :: es) X.env = (false, eval e0 X.env) :: starEach es X.env := by rfl) (hpl : (backTo pos (starEach es X.env)).any (·.1) = false := by rfl) (hs : ∀ u, foldedSetIterable (.Call (.Name x p) (e0 :: es) [] pos) X.env u = pure u := by intro _; rfl) :
    VF X E O (.ListComp e [⟨tg, .Call (.Name x p) (e0 :: es) [] pos, ifs, 0⟩] scope pos') (eLc (eGen len gf ml) (own.map (·.2)) g mt me) := by
  subst hl
  have mnt := (ht bk0).1
  have mne := (he bk0).1
  have mng := (hg bk0).1
  obtain ⟨gt, pg, fg⟩ := VG.all hg
  obtain ⟨tt, pt, ft⟩ := VTs.all ht
  obtain ⟨te, pe, fe⟩ := VX.all he
  refine ⟨fun xq s n Q Q' hq h => mn_eGen ha.1 _ _ _ _ _ (fun ds n1 h => ⟨h.1, mn_lcL mnt mne mng _ _ _ _ _ (fun x n2 => hq _ _) h.2⟩) h, fun σ H Q => ∃ (aS : Addr) (A0 : A0T) (H0 : Hp) (sv : Ev) (n : Nat) (xq : XQ), SR X.K aS O A0 H0 σ H sv n ∧ LX X.K E aS A0 H0 xq ∧
    eLc (eGen ps.length gf ml) (own.map (·.2)) g mt me xq sv n (fun d n' => ∀ a H', H a = none → KpS aS H H' → StA X.K aS H' n' → Own X.K aS H' (fun b => AV aS A0 O σ b ∨ b = a) a d → Q (.ref a) H'), ⟨fun pins s σ H Q I h => ?_⟩, fun aS A0 H0 σ H s n xq Q S L hm => ⟨aS, A0, H0, s, n, xq, S, L, hm⟩⟩
  obtain ⟨aS, A0, H0, sv, n, xq, S, L, hm⟩ := h
  have room : Room (k + 1) X.A := DL.Room.le hr hk
  have pl : Plain X.N scope own := ⟨ok.kind, hloc, ok.ix, fun y hy z => ok.own y hy (.inl z)⟩
  have LF : ∀ A1 B, LX X.K EF aS A1 B (fun _ _ => False) := fun _ _ _ _ _ _ _ _ _ _ z => z.elim
  obtain ⟨Qd, eQ⟩ : ∃ Qd : DL.D → Nat → Prop, Qd = fun d n' => ∀ a H', H a = none → KpS aS H H' → StA X.K aS H' n' → Own X.K aS H' (fun b => AV aS A0 O σ b ∨ b = a) a d → Q (.ref a) H' := ⟨_, rfl⟩
  rw [← eQ] at hm
  obtain ⟨oi, eoi⟩ : ∃ oi, oi = own.map (·.2) := ⟨_, rfl⟩
  rw [← eoi] at hm hown hws
  rw [eval_ListComp]
  refine wpAny_comprehension_free (use := none) rfl hs (closure_ok fun y hy q => absurd q (hloc y hy).2) pl.kind (fun y hy q => by rw [ok.uniq y hy, q])
    (thn (eval_gen (W := fun ys n1 => ys.length ≤ LIM ∧ sLcL g mt me (fun _ _ => False) (hideL sv oi) ys n1 [] fun xs n2 => Qd (.lst xs) n2) Gf (DL.Room.le hr (by omega)) hgl ha hdb hst hpl I S L hm) fun u s2 q => ?_)
  obtain ⟨N, env, a, gi, go, H2, Pr, ys, n2, rfl, ⟨hlim, w⟩, I2, kp, st, prn, hd, gsz1, gsz2, _⟩ := q
  refine wpAny_pyIter_gen hd.ha (wpAny_newObj_type (newEnv_comp ?_) (show 0 ≤ sizeLine by decide))
  have hd0 := Hd.begin S I2 kp st prn hd gsz2
  obtain ⟨Dn, hDe⟩ : ∃ Dn, s2.heap.objs.size = Dn := ⟨_, rfl⟩
  obtain ⟨s3, hs3⟩ : ∃ s3 : Shared, ({ s2 with heap := s2.heap.push { cls := .type "list", data := .seq ([] : List Value).toArray } } : Shared) = s3 := ⟨_, rfl⟩
  rw [hDe, hs3]
  have hD2 : H2 Dn = none := I2.hok.fresh (Nat.le_of_eq hDe)
  obtain ⟨H3, hH3⟩ : ∃ H3, L2.upd H2 Dn (.lst []) = H3 := ⟨_, rfl⟩
  have I3 : Inv X pins σ H3 s3 := by
    rw [← hs3, ← hH3]
    refine I2.laid (t' := s2.toks) (fun b o q => Heap.get?_push_of_some _ q) (Nat.le_of_eq hDe) ⟨Nat.zero_le _, [], 0, .nil, ?_⟩
    rw [← hDe]
    exact Heap.get?_push_size _ rfl
  have I4 := block_start (fp := []) I3 ok hN (fun b hb => nomatch hb)
  rw [plain_cells pl] at I4
  show codeAny _ _ (.compStart (.ListComp e [⟨tg, .Call (.Name x p) (e0 :: es) [] pos, ifs, 0⟩] scope pos') 0 (.ref a) (.ref Dn) (compEnvC scope (cellsFrom (s3.heap.objs.size + 1) scope.names (cloFrom X.env.cells scope.names [])) s3.heap.objs.size X.env)) (compPost (model X.prog X.w) X.A X.xe none _ (.ref Dn) s3.heap.objs.size) _
  rw [plain_cells pl]
  obtain ⟨C, hCe⟩ : ∃ C, s3.heap.objs.size = C := ⟨_, rfl⟩
  rw [hCe] at I4 ⊢
  obtain ⟨s4, hs4⟩ : ∃ s4 : Shared, ({ s3 with heap := pushCells (s3.heap.push { cls := .type "dict", data := .dict #[] }) scope.names } : Shared) = s4 := ⟨_, rfl⟩
  rw [hs4] at I4 ⊢
  have hC3 : H3 C = none := I3.hok.fresh (Nat.le_of_eq hCe)
  have f := I3.fpOk (Nat.le_of_eq hCe) hC3
  have hlt : X.env.locals < C := by rw [← hCe]; exact I3.lt
  have hsz : X.s_0.heap.objs.size ≤ C := by rw [← hCe]; exact I3.sz
  have hcl : ∀ x c, X.env.cells.lookup x = some c → c < C := fun y c q => by
    obtain ⟨v, q⟩ := I3.cell y c q
    rw [← hCe]
    exact q.lt
  have hpn : ∀ p ∈ X.pn ++ pins, p.1 < C := fun p hp => by
    rw [← hCe]
    exact Heap.lt_size (I3.pin p hp).1
  have I4x : Inv X pins σ H3 s4 := I3.call' (ch := []) I4.os I4.base I4.hok I4.bare (fun b hb => nomatch hb)
  obtain ⟨m4, ⟨o4, es4, ep4, ho4, hd4, sk4, fi4⟩, _⟩ := I4.loc
  have ho4 : s4.heap.get? C = some o4 := ho4
  have hDC : Dn ≠ C := fun z => by
    rw [← z, ← hH3, upd_same] at hC3
    cases hC3
  have hC2 : H2 C = none := by
    rw [← hH3, upd_ne (Ne.symm hDC)] at hC3
    exact hC3
  have lstS : ∀ {B : Hp} {n : Nat} {b : Addr}, StA X.K aS B n → B b = none → b ≠ aS := fun {B n b} s1 q z => by
    obtain ⟨zs, hz⟩ := s1.lst
    rw [z, hz] at q
    cases q
  have hDs : Dn ≠ aS := lstS st hD2
  have hCs : C ≠ aS := lstS st hC2
  have hDH : H Dn = none := Option.eq_none_iff_forall_ne_some.mpr fun u z => (KpS.gone kp hD2 z hDs).elim
  have hCH : H C = none := Option.eq_none_iff_forall_ne_some.mpr fun u z => (KpS.gone kp hC2 z hCs).elim
  have hD0 : H0 Dn = none := Option.eq_none_iff_forall_ne_some.mpr fun u z => (KpS.gone S.fr hDH z hDs).elim
  have hC0 : H0 C = none := Option.eq_none_iff_forall_ne_some.mpr fun u z => (KpS.gone S.fr hCH z hCs).elim
  have hA0 : ¬ A0.p Dn ∧ ¬ A0.p C := by
    constructor
    · intro z
      obtain ⟨u, hu⟩ := S.av _ z
      rw [hDH] at hu
      cases hu
    · intro z
      obtain ⟨u, hu⟩ := S.av _ z
      rw [hCH] at hu
      cases hu
  have up2 : ∀ b u, H2 b = some u → onH C s4.heap H3 b = some u := fun b u q => by
    rw [on_ne (ne_of_none q hC2), ← hH3, upd_ne (ne_of_none q hD2)]
    exact q
  have S5 : SR X.K aS O (cat (AX A0 Dn C) Pr) (bare O σ (onH C s4.heap H3)) σ (onH C s4.heap H3) sv n2 := by
    have S1 := hd0.sr.laidA (o := .lst []) hD2
    rw [hH3] at S1
    have S2 := (S1.laidA (o := .ext fun h1 => h1.get? C = s4.heap.get? C) hC3).base
    exact SR.less S2 (fun b y => by
      rcases y with (y | y | y) | y
      · exact .inl (.inl (.inl y))
      · exact .inl (.inr y)
      · exact .inr y
      · exact .inl (.inl (.inr y))) rfl
  have hdX : Hd X (mkG X N env k aS a gi go) pins O (AX A0 Dn C) H0 ys σ (onH C s4.heap H3) s4 sv n2 Pr := Hd.grow hd0 (inv_on I4x ho4 f) up2 (fun b y => by
    rcases y with y | y | y
    · exact .inl y
    · exact .inr (by rw [y]; exact hD2)
    · exact .inr (by rw [y]; exact hC2)) S5 (by rw [← hs4, ← hs3])
  have J0 : LcJ X (mkG X N env k aS a gi go) pins O A0 H0 H σ sv Dn C own g mt me (fun xs n2 => Qd (.lst xs) n2) ys (onH C s4.heap H3) s4 Pr n2 [] [] (fun h1 => h1.get? C = s4.heap.get? C) :=
    ⟨hdX, kp.trans (KpS.all up2), prn, on_same, fun h q => ⟨m4, o4, es4, ep4, (show h.get? C = s4.heap.get? C from q).trans ho4, hd4, sk4, fi4⟩, by rw [on_ne hDC, ← hH3]; exact upd_same, RepL.nil, by rw [List.length_nil]; omega, by rw [← eoi]; exact w⟩
  suffices hlp : codeAny (model X.prog X.w) X.A (.compLoop (.ListComp e [⟨tg, .Call (.Name x p) (e0 :: es) [] pos, ifs, 0⟩] scope pos') 0 (.ref a) (.ref Dn) (compEnvC scope [] C X.env)) (compPost (model X.prog X.w) X.A X.xe none _ (.ref Dn) C) s4 from codeAny_compStart_list hlp (wpAny_pyIter_gen hdX.hd.ha hlp)
  refine compLoop_any (fun m s' => ∃ ys Pr H' n' acc xs φ, m = ys.length ∧ LcJ X (mkG X N env k aS a gi go) pins O A0 H0 H σ sv Dn C own g mt me (fun xs n2 => Qd (.lst xs) n2) ys H' s' Pr n' acc xs φ) ?_ ys.length ⟨ys, Pr, _, n2, [], [], _, rfl, J0⟩
  rintro m s5 ⟨ys, Pr, H5, n5, acc, xs, φ, rfl, J⟩
  obtain ⟨gs, Gl, Hl, Al, hg1, sl, k1, k2, k3, k4⟩ := J.hd.hd.sl
  obtain ⟨_, f1, f2, f3, f4, f5⟩ := f
  have nPr : ∀ {b}, (AX A0 Dn C).p b → ¬ Pr b := fun {b} y z => (J.hd.prA b z).1 y
  refine thn (next_gen J.hd.hd.el J.hd.inv room hg1 J.hd.hd.ha sl (J.hd.wok room k1 k2 k3 k4)) fun r s6 q => ?_
  cases ys with
  | nil =>
    obtain ⟨rfl, H', I', fa, _⟩ := q
    have hC' : H' C = some (.ext φ) := fa.kp C _ J.hC (nPr (.inr (.inr rfl))) hCs
    have hD' : H' Dn = some (.lst xs) := fa.kp Dn _ J.hD (nPr (.inr (.inl rfl))) hDs
    obtain ⟨φz, _⟩ := I'.hok C _ hC'
    obtain ⟨m, hm⟩ := J.ns _ φz
    have w' : Qd (.lst acc) n5 := J.w
    rw [eQ] at w'
    have kpH : KpS aS H H' := fun b u q hb => (J.kp b u q hb).trans fun v hv => fa.kp b v hv (fun y => by rw [J.pr b y] at q; cases q) hb
    have kpO : KpS aS H (offH C H') := fun b u q hb => by
      rw [off_ne (ne_of_none q hCH)]
      exact kpH b u q hb
    have rl' : RepL X.K aS (offH C H') (fun b => AV aS A0 O σ b ∨ b = Dn) acc xs := by
      have s1 : Sub X.K H5 H' (AV aS (cat (AX A0 Dn C) Pr) O σ) (AV aS (cat (AX A0 Dn C) none0) O σ) := sub_kept (fun b u q hn => fa.kp b u q (fun y => hn (.inl (.inr y))) fun y => hn (by rw [y]; exact AV.st)) fa.tups fun b y => .inl (by
        rcases y with (y | y) | y
        · exact .inl (.inl y)
        · exact y.elim
        · exact .inr y)
      have s2 : Sub X.K H' (offH C H') (AV aS (cat (AX A0 Dn C) none0) O σ) (fun b => AV aS A0 O σ b ∨ b = Dn) := sub_off hC' (.inl (.inl (.inr (.inr rfl)))) fun b y => by
        rcases y with (y | y) | y
        · exact .inl (.inl (.inl y))
        · exact .inr y
        · exact .inl (.inl (.inr (.inl y)))
      exact RepL.mono s2 _ _ (RepL.mono s1 _ _ J.rl)
    refine ⟨m, hm, fun h'' sb => ⟨.ref Dn, offH C H', (inv_off I' hC').turned (t' := s6.toks) (fun b o hb q => (sb.2 b hb).trans q) off_same f1 f3 f4 f5, rfl, ?_⟩⟩
    exact w' Dn _ hDH kpO (sta_off hT fa.st hC') ⟨xs, by rw [off_ne hDC]; exact hD', rl'⟩
  | cons d ys =>
    obtain ⟨v, xv, H', Pr', gs', Gl', rfl, rv, I', hg', hs', rp, sl', k4', ga', fa, _⟩ := q
    have hC' : H' C = some (.ext φ) := fa.kp C _ J.hC (nPr (.inr (.inr rfl))) hCs
    have hD' : H' Dn = some (.lst xs) := fa.kp Dn _ J.hD (nPr (.inr (.inl rfl))) hDs
    obtain ⟨φz, _⟩ := I'.hok C _ hC'
    obtain ⟨S', le', prA'⟩ := J.hd.next fa
    have hgen : s6.heap.IsGen a gi := by
      obtain ⟨_, φg, q1, q2⟩ := ga'
      obtain ⟨y, _⟩ := I'.hok _ _ q1
      exact q2 _ y
    obtain ⟨og, nm, qn, hog, hcg, hdg, _⟩ := hgen
    refine go_of hog hcg hdg (by decide) ?_
    have kpH : KpS aS H H' := fun b u q hb => (J.kp b u q hb).trans fun v hv => fa.kp b v hv (fun y => by rw [J.pr b y] at q; cases q) hb
    have prH : ∀ b, Pr' b → H b = none := fun b y => by
      rcases fa.new b y with y | y
      · exact J.pr b y
      · exact Option.eq_none_iff_forall_ne_some.mpr fun u hu => (KpS.gone J.kp y hu (lstS J.hd.sr.st y)).elim
    have Ib := blk_again hN pl I' hC' φz J.ns hlt hsz
    rw [← eoi] at Ib
    have Sb : SR X.K aS O (cat ⟨fun b => A0.p b ∨ b = Dn, A0.z⟩ Pr') (bare O σ (offH C H')) σ (offH C H') sv n5 := sr_off hT S' hC' (.inl (.inr (.inr rfl))) (fun b y => by
      rcases y with (y | y) | y
      · exact ⟨.inl (.inl y), fun z => hA0.2 (z ▸ y)⟩
      · exact ⟨.inl (.inr (.inl y)), fun z => hDC (y ▸ z)⟩
      · exact ⟨.inr y, fun z => (prA' b y).1 (.inr (.inr z))⟩) rfl
    have Sw := SR.wipe hown Sb
    have aw := AV.wipe (aS := aS) (σ := σ) (O := O) (A0 := (cat ⟨fun b => A0.p b ∨ b = Dn, A0.z⟩ Pr').p) hown
    have w := J.w
    rw [← eoi] at w
    have rp' : Rep X.K aS (offH C H') (AV aS (cat ⟨fun b => A0.p b ∨ b = Dn, A0.z⟩ Pr') O (L2.wipe σ oi)) d xv := by
      rw [aw]
      refine Rep.mono (sub_off hC' (.inl (.inl (.inr (.inr rfl)))) fun b y => ?_) _ _ rp
      rcases y with ((y | y) | y) | y
      · exact .inl (.inl (.inl y))
      · exact .inl (.inl (.inr (.inl y)))
      · exact .inr y
      · exact .inl (.inr y)
    have rlH : RepL X.K aS H' (AV aS (cat (AX A0 Dn C) Pr') O σ) acc xs := by
      refine RepL.mono (sub_kept (fun b u q hn => fa.kp b u q (fun y => hn (.inl (.inr y))) fun y => hn (by rw [y]; exact AV.st)) fa.tups fun b y => ?_) _ _ J.rl
      rcases y with (y | y) | y
      · exact .inl (.inl (.inl y))
      · exact (fa.new b y).imp (fun y => .inl (.inr y)) id
      · exact .inl (.inr y)
    have hDo : offH C H' Dn = some (.lst xs) := by rw [off_ne hDC]; exact hD'
    have tupS : ∀ b zs, offH C H' b = some (.tup zs) → b ≠ aS ∧ b ≠ Dn := fun b zs q => by
      constructor
      · intro y
        obtain ⟨us, hu⟩ := Sb.st.lst
        rw [y, hu] at q
        cases q
      · intro y
        rw [y, hDo] at q
        cases q
    have fin : ∀ {σ7 : L2.St} {H10 : Hp} {s10 : Shared} {n10 : Nat} {acc' : List DL.D} {xs' : List V}, Inv (X.blk (atC C s6) (offH C H') scope (compEnvC scope [] C X.env) []) [] σ7 H10 s10 → Slp (fun _ => True) s6.gens s10.gens → (∀ b u, offH C H' b = some u → b ≠ Dn → b ≠ aS → Kp1 u (H10 b)) →
        StA X.K aS H10 n10 → H10 Dn = some (.lst xs') → RepL X.K aS H10 (AV aS (cat (AX A0 Dn C) Pr') O σ) acc' xs' → acc'.length + ys.length ≤ LIM → sLcL g mt me (fun _ _ => False) (hideL sv oi) ys n10 acc' (fun xs n2 => Qd (.lst xs) n2) →
        ∃ m, m < (d :: ys).length ∧ ∃ ys Pr H' n' acc xs φ, m = ys.length ∧ LcJ X (mkG X N env k aS a gi go) pins O A0 H0 H σ sv Dn C own g mt me (fun xs n2 => Qd (.lst xs) n2) ys H' s10 Pr n' acc xs φ := fun {σ7 H10 s10 n10 acc' xs'} I10 sp kk st10 hD10 rl10 lim10 w10 => by
      obtain ⟨Hn, φn, Jn⟩ := lcj_end (X := X) (G := mkG X N env k aS a gi go) (A0 := A0) (H0 := H0) (Hd0 := H) (Dn := Dn) (C := C) (σ := σ) (sv := sv) (ce := compEnvC scope [] C X.env) (Qf := fun xs n2 => Qd (.lst xs) n2) (ys := ys) (me := me) (mt := mt) (g := g) (own := own) rfl J.hd.hd.el S' le' prA' ga' fa.on kpH prH (sp.keep _ _ trivial hg' hs') sl' (k4'.trans (sp.mono fun _ _ => trivial)) I' hC' ⟨I10.free, f1, f2, f3, f4, f5⟩ hlt hsz hcl hpn I10 kk
        (fun b zs q => kk b (.tup zs) q (tupS b zs q).2 (tupS b zs q).1) st10 hD10 hD0 hC0 hDH hCH hA0 hDs hCs rl10 lim10 (by rw [← eoi]; exact w10)
      exact ⟨ys.length, Nat.lt_succ_self _, ys, Pr', Hn, n10, acc', xs', φn, rfl, Jn⟩
    refine wpAny_mono (held_run (E := fun _ _ => False) ((pg (atC C s6, offH C H', C, [], [])).run [] (mute s6) _ _ xv v (fun σ7 H7 => H7 = offH C H' ∧ ∃ sv7, SR X.K aS O (cat ⟨fun b => A0.p b ∨ b = Dn, A0.z⟩ Pr') (bare O σ (offH C H')) σ7 (offH C H') sv7 n5 ∧ AV aS (cat ⟨fun b => A0.p b ∨ b = Dn, A0.z⟩ Pr') O σ7 = AV aS (cat ⟨fun b => A0.p b ∨ b = Dn, A0.z⟩ Pr') O σ ∧
      mt (fun _ _ => False) sv7 n5 fun c n6 => if c = true then me (fun _ _ => False) sv7 n6 fun y n7 => sLcL g mt me (fun _ _ => False) (hideL sv oi) ys n7 (acc ++ [y]) fun xs n2 => Qd (.lst xs) n2 else sLcL g mt me (fun _ _ => False) (hideL sv oi) ys n6 acc fun xs n2 => Qd (.lst xs) n2)
      (Inv.regens Ib (mute_bare I'.bare)) rv (fg aS _ _ _ _ _ n5 d xv _ _ Sw rp' w fun σ7 sv7 S7 _ _ a7 q7 => ⟨rfl, sv7, S7, a7.trans aw, q7⟩))) (fun _ s7 q7 => ?_) fun _ _ z => z.elim
    obtain ⟨s7', ⟨σ7, H7, I7', rfl, sv7, S7, a7, w7⟩, e7, sp7, b7⟩ := q7.get
    have I7 : Inv (X.blk (atC C s6) (offH C H') scope (compEnvC scope [] C X.env) []) [] σ7 (offH C H') s7 := by rw [e7]; exact Inv.regens I7' (b7 I'.bare I7'.bare)
    refine wpAny_mono (held_run (E := fun _ _ => False) ((pt (atC C s6, offH C H', C, [], [])).run [] (mute s7) σ7 _ (fun c H8 => ∃ n8, KpS aS (offH C H') H8 ∧ StA X.K aS H8 n8 ∧ if c = true then me (fun _ _ => False) sv7 n8 fun y n7 => sLcL g mt me (fun _ _ => False) (hideL sv oi) ys n7 (acc ++ [y]) fun xs n2 => Qd (.lst xs) n2 else sLcL g mt me (fun _ _ => False) (hideL sv oi) ys n8 acc fun xs n2 => Qd (.lst xs) n2)
      (Inv.regens I7 (mute_bare I7.bare)) (ft aS _ _ σ7 _ sv7 n5 (fun _ _ => False) _ S7 (LF _ _) (mnt _ _ _ _ _ (fun c n8 q8 H8 k8 st8 => ⟨n8, k8, st8, q8⟩) w7)))) (fun c s8 q8 => ?_) fun _ _ z => z.elim
    obtain ⟨s8', ⟨H8, I8', n8, k8, st8, w8⟩, e8, sp8, b8⟩ := q8.get
    have I8 : Inv (X.blk (atC C s6) (offH C H') scope (compEnvC scope [] C X.env) []) [] σ7 H8 s8 := by rw [e8]; exact Inv.regens I8' (b8 I7.bare I8'.bare)
    have hD8 := k8.lst hDo hDs
    have rlK : ∀ {B : Hp}, (∀ b u, offH C H' b = some u → b ≠ Dn → b ≠ aS → Kp1 u (B b)) → RepL X.K aS B (AV aS (cat (AX A0 Dn C) Pr') O σ) acc xs := fun {B} kk => by
      refine RepL.mono (sub_kept (fun b u q hn => ?_) (fun b zs q => ?_) fun b y => .inl y) _ _ rlH
      · exact kk b u (by rw [off_ne fun y => hn (.inl (.inl (.inr (.inr y))))]; exact q) (fun y => hn (.inl (.inl (.inr (.inl y))))) fun y => hn (by rw [y]; exact AV.st)
      · have q' : offH C H' b = some (.tup zs) := by
          rw [off_ne fun y => by rw [y, hC'] at q; cases q]
          exact q
        exact kk b (.tup zs) q' (tupS b zs q').2 (tupS b zs q').1
    cases c with
    | false =>
      rw [if_neg (by decide)] at w8 ⊢
      exact fin I8 (sp7.trans sp8) (fun b u q _ hb => k8 b u q hb) st8 hD8 (rlK fun b u q _ hb => k8 b u q hb) (by have := J.lim; rw [List.length_cons] at this; omega) w8
    | true =>
      rw [if_pos rfl] at w8 ⊢
      have S8 := S7.step k8 st8
      refine wpAny_mono (held_run (E := fun _ _ => False) ((pe (atC C s6, offH C H', C, [], [])).run [] (mute s8) σ7 _ (fun v9 H9 => ∃ y n9, KpS aS H8 H9 ∧ StA X.K aS H9 n9 ∧ Rep X.K aS H9 (AV aS (cat ⟨fun b => A0.p b ∨ b = Dn, A0.z⟩ Pr') O σ7) y v9 ∧ sLcL g mt me (fun _ _ => False) (hideL sv oi) ys n9 (acc ++ [y]) fun xs n2 => Qd (.lst xs) n2)
        (Inv.regens I8 (mute_bare I8.bare)) (fe aS _ _ σ7 _ sv7 n8 (fun _ _ => False) _ S8 (LF _ _) (mne _ _ _ _ _ (fun y n9 q9 v9 H9 k9 st9 r9 => ⟨y, n9, k9, st9, r9, q9⟩) w8)))) (fun u9 s9 q9 => ?_) fun _ _ z => z.elim
      obtain ⟨s9', ⟨v9, H9, I9', r9v, y, n9, k9, st9, r9, w9⟩, e9, sp9, b9⟩ := q9.get
      have I9 : Inv (X.blk (atC C s6) (offH C H') scope (compEnvC scope [] C X.env) []) [] σ7 H9 s9 := by rw [e9]; exact Inv.regens I9' (b9 I8.bare I9'.bare)
      have hD9 := k9.lst hD8 hDs
      have hlen : xs.length < LIM := by
        have h1 := J.lim
        have h2 := J.rl.length
        rw [List.length_cons] at h1
        omega
      refine wpAny_mono (held_run (E := fun _ _ => False) (app_ok (X := X.blk (atC C s6) (offH C H') scope (compEnvC scope [] C X.env) []) (E := fun _ _ => False) (Q := fun _ s10 => Inv (X.blk (atC C s6) (offH C H') scope (compEnvC scope [] C X.env) []) [] σ7 (L2.upd H9 Dn (.lst (xs ++ [v9]))) s10) (Inv.regens I9 (mute_bare I9.bare)) hD9 (lim_lt hlen) r9v fun s10 I10 => I10)) (fun _ s10 q10 => ?_) fun _ _ z => z.elim
      obtain ⟨s10', I10', e10, sp10, b10⟩ := q10.get
      have I10 : Inv (X.blk (atC C s6) (offH C H') scope (compEnvC scope [] C X.env) []) [] σ7 (L2.upd H9 Dn (.lst (xs ++ [v9]))) s10 := by rw [e10]; exact Inv.regens I10' (b10 I9.bare I10'.bare)
      have hC9 : H9 C = none := I9.free
      have kk : ∀ b u, offH C H' b = some u → b ≠ Dn → b ≠ aS → Kp1 u (L2.upd H9 Dn (.lst (xs ++ [v9])) b) := fun b u q h1 h2 => by
        rw [upd_ne h1]
        exact (k8.trans k9) b u q h2
      refine fin I10 ((sp7.trans sp8).trans (sp9.trans sp10)) kk (StA.poke st9 hD9 hDs (fun _ z => nomatch z) (fun _ _ z => by unfold LamX.CodeO at z; cases z) (fun _ z => nomatch z) (fun _ _ z => nomatch z)) upd_same ((rlK kk).app (RepL.cons ?_ RepL.nil)) (by have := J.lim; rw [List.length_cons] at this; rw [List.length_append, List.length_singleton]; omega) w9
      rw [a7] at r9
      refine Rep.mono (sub_kept (fun b u q hn => ?_) (fun b zs q => ?_) fun b yb => ?_) _ _ r9
      · rw [upd_ne fun y => hn (.inl (.inl (.inr y)))]
        exact .of q
      · rw [upd_ne fun y => by rw [y, hD9] at q; cases q]
        exact q
      · rcases yb with ((yb | yb | yb) | yb) | yb
        · exact .inl (.inl (.inl (.inl yb)))
        · exact .inl (.inl (.inl (.inr yb)))
        · exact .inr (by rw [yb]; exact hC9)
        · exact .inl (.inl (.inr yb))
        · exact .inl (.inr yb)
end
end DL.GF
namespace DL.GF
open PySem PySem.Spec PyProof.Rows GenW L2
variable [TabC]
section
variable {X : Cx} {E : XK} {O ws hs : List Nat} {e0 e tg : Expr} {es ifs : List Expr} {ml : EM (List DL.D)} {me : EM DL.D} {mt : EM Bool} {g : DG} {pos pos' p : Pos} {x : Str} {ps : List Str} {k k' : Nat} {gf : List DL.D → List DL.D → Prop} {scope : Scope} {own : List (Str × Nat)}
theorem xf_lcG (hh : own.map (·.2) = hs) (hT : TabC.T = []) (hc : X.calm = true) (hN : X.N.Nodup) {len : Nat} (hl : ps.length = len) (Gf : GGn X.prog X.w X.K X.mg X.base x k ps gf) (hr : Room k' X.A) (hk : k + 1 ≤ k') (hgl : Gl X x) (ha : VA Rep X E O (e0 :: es) ml) (ok : BlkOk X.N X.env.scope scope own) (hloc : ∀ y ∈ scope.names, y.2 ≠ .cell ∧ y.2 ≠ .free)
    (hown : ∀ j ∈ own.map (·.2), j ∉ O) (hws : ∀ j ∈ ws, j ∈ own.map (·.2)) (hg : ∀ c : Bk, VG (Cx.bk X scope c) O ws tg g) (ht : ∀ c : Bk, VTs (Cx.bk X scope c) EF O ifs mt) (he : ∀ c : Bk, VE (Cx.bk X scope c) EF O e me)
    (hdb : (x == ("__debug__" : Str)) = false := by decide) (hst : starEach (e0 :: es) X.env = (false, eval e0 X.env) :: starEach es X.env := by rfl) (hpl : (backTo pos (starEach es X.env)).any (·.1) = false := by rfl) (hs' : ∀ u, foldedSetIterable (.Call (.Name x p) (e0 :: es) [] pos) X.env u = pure u := by intro _; rfl) :
    VF X E O (.ListComp e [⟨tg, .Call (.Name x p) (e0 :: es) [] pos, ifs, 0⟩] scope pos') (eLc (eGen len gf ml) hs g mt me) := hh ▸ vf_lcG hT hc hN hl Gf hr hk hgl ha ok hloc hown hws hg ht he hdb hst hpl hs'
end
theorem le_lcG {len : Nat} {F : GFm} {m : FM (List DL.D)} {hs : List Nat} {g : FG} {t : FM Bool} {e : FM DL.D} : ∀ xq s n Q, up (fLc (fGen len F m) hs g t e) xq s n Q → eLc (eGen len (relY F) (up m)) hs (upG g) (up t) (up e) xq s n Q := fun xq s n Q h => le_gen _ _ _ _ (le_lc xq s n Q h)
end DL.GF
namespace DL
open PySem PySem.Spec PyProof.Rows L2
variable [TabC]
/-! ### defs that hand back None or a new thing -/
section
variable {X : Cx} {E : XK} {O O' OL : List Nat} {e : Expr} {es : List Expr} {st : Stmt} {rest : List Stmt} {m ma mb : EM D} {ml : EM (List D)} {ms mr m1 m2 : SM} {pos p : Pos} {i j : Nat} {x y : Str} {ps : List Str} {k k' : Nat} {sp : FSp} {dds : List D}
/-! a name takes such a thing: what follows is read twice -/
end
/-! by their names -/
section
variable {P : Program} {w : World} {K : PySem.W.Frag} {mg : Str → Option Value} {base : Heap} {x qual : Str} {params : Arguments} {body : List Stmt} {scope : Scope} {dvs : List V} {kws : List (Str × V)} {f : Addr} {fd : FuncData}
end
/-! flat forms -/
section
variable {X : Cx} {E : XK} {O : List Nat} {e : Expr} {st : List Stmt}
end
end DL
namespace DL
open PySem PySem.Spec PyProof.Rows L2
variable [TabC]
/-! l.count(x), texts -/
section
variable {X : Cx} {E : XK} {O OL : List Nat} {e o : Expr} {mo mx : EM D} {pos : Pos}
end
end DL
namespace DL
open PySem PySem.Spec PyProof.Rows L2
open PySem.SeqAt PySem.AutoSeq1 PySem.MeetsSeq PySem.MeetsSeq2 PySem.MeetsSeq3 PySem.SeqRoads2
variable [TabC]
/-! ### how often a dict stands in a list of dicts -/
section
variable {prog : Program} {w : World}
theorem cnt_loop {l : Addr} {its : Array Value} {n : Nat} {dd : Option Addr} {sl : Array (Option Value)} {x : Value} {bs : List Bool} (hb : bs.length = its.size) : ∀ (k i : Nat) (found : Int), its.size - i = k → MeetsIn prog w (Builtin.«list.count.loop» ⟨[.ref l, x, rawInt i, rawInt found], []⟩)
      (fun A R s => (s.heap.get? l = some { cls := .type "list", dict := dd, data := .seq its n, slots := sl } ∧ ∀ (j : Nat) (v : Value) (c : Bool), its[j]? = some v → bs[j]? = some c → EqP prog w A.in1 s v x c) ∧ R (.ok (.ret (.int (found + (((bs.drop i).countP id : Nat) : Int)) s.toks))) { s with toks := s.toks + 1 })
  | 0, i, found, hk => fun A R s ⟨⟨hl, he⟩, q⟩ => by
    obtain ⟨hp, g, d, tk, os⟩ := s
    wp_walk using wpAny_loadPart' hl
    have hi : its[((i : Nat) : Int).toNat]? = none := by rw [Int.toNat_natCast]; exact Array.getElem?_eq_none (by omega)
    rw [List.drop_eq_nil_of_le (by omega)] at q
    rw [hi]
    wp_walk
    simpa using q
  | k + 1, i, found, hk => fun A R s ⟨⟨hl, he⟩, q⟩ => by
    obtain ⟨hp, g, d, tk, os⟩ := s
    wp_walk using wpAny_loadPart' hl
    have lt : i < its.size := by omega
    have lt2 : i < bs.length := by omega
    have hi : its[((i : Nat) : Int).toNat]? = some its[i] := by rw [Int.toNat_natCast]; exact Array.getElem?_eq_getElem lt
    rw [List.drop_eq_getElem_cons lt2, List.countP_cons] at q
    rw [hi]
    refine wpAny_bind (he i _ bs[i] (Array.getElem?_eq_getElem lt) (List.getElem?_eq_getElem lt2) _ _ ?_)
    have ec : ((i : Int) + 1) = ((i + 1 : Nat) : Int) := by push_cast; rfl
    cases hc : bs[i] with
    | true =>
      rw [hc] at q
      wp_walk
      rw [ec]
      refine ⟨plainId_quiet plain_count_loop _, codeAny_builtin entry_count_loop ?_⟩
      rw [Around.under_plainId plain_count_loop _]
      refine cnt_loop hb k (i + 1) (found + 1) (by omega) A R _ ⟨⟨hl, he⟩, ?_⟩
      have e1 : found + 1 + (((bs.drop (i + 1)).countP id : Nat) : Int) = found + (((bs.drop (i + 1)).countP id + 1 : Nat) : Int) := by push_cast; omega
      rw [e1]
      exact q
    | false =>
      rw [hc] at q
      wp_walk
      rw [ec]
      refine ⟨plainId_quiet plain_count_loop _, codeAny_builtin entry_count_loop ?_⟩
      rw [Around.under_plainId plain_count_loop _]
      exact cnt_loop hb k (i + 1) found (by omega) A R _ ⟨⟨hl, he⟩, q⟩
theorem cnt_list {l : Addr} {its : Array Value} {n : Nat} {dd : Option Addr} {sl : Array (Option Value)} {x : Value} {bs : List Bool} (hb : bs.length = its.size) : MeetsIn prog w (Builtin.«list.count» ⟨[.ref l, x], []⟩)
      (fun A R s => (s.heap.get? l = some { cls := .type "list", dict := dd, data := .seq its n, slots := sl } ∧ ∀ (j : Nat) (v : Value) (c : Bool), its[j]? = some v → bs[j]? = some c → EqP prog w A.in1 s v x c) ∧ R (.ok (.ret (.int ((bs.countP id : Nat) : Int) s.toks))) { s with toks := s.toks + 1 }) := fun A R s ⟨⟨hl, he⟩, q⟩ => by
  obtain ⟨hp, g, d, tk, os⟩ := s
  wp_walk using wpAny_loadPart' hl
  refine ⟨plainId_quiet plain_count_loop _, codeAny_builtin entry_count_loop ?_⟩
  rw [Around.under_plainId plain_count_loop _]
  refine cnt_loop hb _ 0 0 rfl A R _ ⟨⟨hl, he⟩, ?_⟩
  simpa using q
end
def eqsDD (x : List (Key × D)) : List D → Option (List Bool)
  | [] => some []
  | .dic kvs :: r => if okK kvs = true then (eqsDD x r).map (eqDD kvs x :: ·) else none
  | _ => none
section
variable {X : Cx} {pins : List (Addr × Obj)} {σ : L2.St} {H : Hp} {s : Shared} {aS : Addr} {A : AS}
theorem each_told (I : Inv X pins σ H s) {B : Around} {x : V} {u : Value} {kvs : List (Key × D)} (hA : A aS) (ox : okK kvs = true) (rx : RepB X.K aS H A (.dic kvs) x) (qx : RelV x u) (hu : B.units + 65 < cLine) : ∀ (ys : List D) (xs : List V) (its : List Value) (bs : List Bool), eqsDD kvs ys = some bs → RepL X.K aS H A ys xs → Vals xs its → bs.length = its.length ∧ ∀ (i : Nat) (v : Value) (c : Bool), its[i]? = some v → bs[i]? = some c → EqP X.prog X.w B s v u c
  | [], xs, its, bs, h, r, q => by
    rw [RepL] at r
    subst r
    cases q
    cases h
    exact ⟨rfl, fun i v c hv _ => by cases hv⟩
  | d :: ys, xs, its, bs, h, r, q => by
    rw [RepL] at r
    obtain ⟨v, vr, rfl, r1, r2⟩ := r
    cases q with
    | @cons _ w _ ws q1 q2 =>
      cases d with
      | dic more =>
        unfold eqsDD at h
        split at h
        · rename_i om
          obtain ⟨b', hb, rfl⟩ := Option.map_eq_some_iff.mp h
          obtain ⟨e1, e3⟩ := each_told I hA ox rx qx hu ys vr ws b' hb r2 q2
          refine ⟨by rw [List.length_cons, List.length_cons, e1], fun i v' c hv hc => ?_⟩
          cases i with
          | zero =>
            cases hv
            cases hc
            exact eqP_dicts I om ox (r1.b hA) rx q1 qx hu
          | succ i => exact e3 i v' c hv hc
        · cases h
      | _ => cases h
end
def rCountDD (K : PySem.W.Frag) : V → List V → Hp → VK → Prop := fun l args H Q => ∃ (aS : Addr) (A : AS) (p : Addr) (x : V) (xs : List V) (kvs : List (Key × D)) (ys : List D) (bs : List Bool), l = .ref p ∧ args = [x] ∧ H p = some (.lst xs) ∧ RepB K aS H A (.dic kvs) x ∧ okK kvs = true ∧ RepL K aS H A ys xs ∧ A aS ∧ eqsDD kvs ys = some bs ∧ Q (.int (bs.countP id : Nat)) H
theorem mt_countDD {X : Cx} (hu : X.A.units + 66 < cLine) : MtR X "list.count" (rCountDD X.K) := fun pins s σ H l args v us Q I rl ra ⟨aS, A, p, x, xs, kvs, ys, bs, el, ea, hp, rx, ok, ry, hA, hb, q⟩ => by
  subst el ea
  cases rl
  obtain ⟨u, rfl, ru⟩ := ra.one
  obtain ⟨_, its, n, rv, hg⟩ := (show ObjOk X.prog X.w H s.heap p (.lst xs) from I.hok p _ hp)
  obtain ⟨e1, e3⟩ := each_told I (B := X.A.in1) hA ok rx ru (by rw [Around.in1_units]; omega) ys xs its bs hb ry rv
  have hT : s.TypeIs (.ref p) "list" := ⟨_, hg, rfl⟩
  refine call_meetsIn F.slot_list_count hT F.entry_list_count (F.args_list_count_2 _ _) (cnt_list (bs := bs) (by rw [List.size_toArray]; exact e1)) ⟨⟨hg, fun j v c hv hc => e3 j v c (by simpa using hv) hc⟩, ?_⟩
  exact ⟨.int (bs.countP id : Nat), H, I.tok _, ⟨_, rfl⟩, q⟩
def countX (ys : List D) : D → Option Nat
  | .dic kvs => if okK kvs = true then (eqsDD kvs ys).map fun bs => bs.countP id else none
  | _ => none
def eCountX (mo mx : EM D) : EM D := fun xq s n Q => mo xq s n fun d n1 => ∃ ys, d = .lst ys ∧ mx xq s n1 fun x n2 => ∃ j : Nat, countX ys x = some j ∧ Q (.int j) n2
section
variable {X : Cx} {E : XK} {O OL : List Nat} {e o : Expr} {mo mx : EM D} {pos : Pos}
theorem ve_countX {ap : Pos} (hu : X.A.units + 66 < cLine) (ho : VB X E O o mo) (hx : VE X E O e mx)
    (hbase : attributeBase o "count" X.env (eval o X.env) = eval o X.env := by rfl)
    (hfew : ((backTo pos (starEach [e] X.env)).all (fun x => !x.1) && (backToKw pos (keywordEach [] X.env)).all (fun x => x.1.isSome)
      && decide (([e] : List Expr).length + ([] : List Keyword).length + (if ([] : List Keyword).isEmpty then 0 else 1) < 30)) = true := by rfl)
    (hline : (ap.endLine == pos.line) = true := by rfl) (hs : starEach [e] X.env = (false, eval e X.env) :: starEach [] X.env := by rfl) (hplain : (backTo pos (starEach [] X.env)).any (·.1) = false := by rfl) :
    VE X E O (.Call (.Attribute o "count" ap) [e] [] pos) (eCountX mo mx) := by
  obtain ⟨mno, to, po, fo⟩ := ho
  obtain ⟨mnx, tx, px, fx⟩ := hx
  refine ⟨fun xq s n Q Q' hq w => mno _ _ _ _ _ (fun d n1 ⟨ys, e, w⟩ => ⟨ys, e, mnx _ _ _ _ _ (fun x n2 ⟨j, e, w⟩ => ⟨j, e, hq _ _ w⟩) w⟩) w, _, pe_bm PySem.F.plainAttrs_list PySem.F.slot_list_count rfl (mt_countDD hu) po (pa_cons px pa_nil hs) hbase hfew hline hs hplain, fun aS A0 H0 σ H s n xq Q S L hm => ?_⟩
  refine fo aS A0 H0 σ H s n xq _ S L (mno _ _ _ _ _ (fun d n1 q v H1 k1 st1 r1 => ?_) hm)
  obtain ⟨ys, ed, q⟩ := q
  subst ed
  obtain ⟨a, xs, ev, na, hr, rl⟩ := repB_lst r1
  subst ev
  refine ⟨.inl ⟨rfl, _, SqL.of hr⟩, fx aS A0 H0 σ H1 s n1 xq _ (S.step k1 st1) L (mnx _ _ _ _ _ (fun d2 n2 q2 v2 H2 k2 st2 r2 => ?_) q)⟩
  obtain ⟨j, z1, q2⟩ := q2
  cases d2 with
  | dic kvs =>
    have z1 : (if okK kvs = true then (eqsDD kvs ys).map (fun bs => bs.countP id) else none) = some j := z1
    by_cases ok : okK kvs = true
    · rw [if_pos ok] at z1
      obtain ⟨bs, hb, ej⟩ := Option.map_eq_some_iff.mp z1
      subst ej
      exact ⟨aS, _, a, v2, xs, kvs, ys, bs, rfl, rfl, k2 _ _ hr na, r2.b AV.st, ok, rl.kp k2 st1 AV.st, AV.st, hb, q2 _ _ (k1.trans k2) st2 rep_int⟩
    · rw [if_neg ok] at z1
      cases z1
  | _ => cases z1
end
def fCountX (o k : FM D) : FM D := fun s => (o s).bind fun d => match d with
  | .lst ys => (k s).bind fun x => (ofO (countX ys x)).bind fun j => .ok (.int (j : Nat))
  | _ => .bad
theorem le_countX {a b : FM D} : ∀ xq s n Q, up (fCountX a b) xq s n Q → eCountX (up a) (up b) xq s n Q := fun xq s n Q h => by
  unfold eCountX up
  refine wp_mono (fun d h => ?_) (wp_bind h)
  cases d with
  | lst ys => exact ⟨ys, rfl, wp_mono (fun x h => by
      obtain ⟨j, e, h⟩ := wp_ofO (wp_bind h)
      exact ⟨j, e, h⟩) (wp_bind h)⟩
  | _ => exact h.elim
end DL
namespace MD
open PySem PySem.Spec PyProof.Rows SeqAt
end MD
namespace MD
open PySem PySem.Spec PyProof.Rows SeqAt
/-! a value in d.values() -/
section
variable {P : Program} {w : World} {A : Around} {E : Value → Shared → Prop} {s : Shared} {k : NK} {key : Value} {d view it : Addr} {es : Array DictEntry} {ep : Nat} {ks : List NK}
end
end MD
namespace MD
open L2 PySem PySem.Spec PyProof.Rows SeqAt
/-! d.values(): the view is laid -/
section
variable {X : Cx}
end
end MD
namespace DL
open PySem PySem.Spec PyProof.Rows L2 MD
variable [TabC]
/-! x in d.values(), x not in d.values() -/
section
variable {K : PySem.W.Frag} {aS : Addr} {H : Hp} {A : AS}
end
section
variable {X : Cx} {E : XK} {O : List Nat} {a e : Expr} {ma : EM D} {p : Ev → Option D} {apos cpos pos : Pos}
end
end DL
namespace DL
open PySem PySem.Spec PyProof.Rows L2
variable [TabC]
/-! within a test what slots own may be met: the test tells no thing -/
section
variable {X : Cx} {E : XK} {O O' : List Nat} {e : Expr} {m : EM Bool}
end
section
variable {X : Cx} {E : XK} {O O' : List Nat} {e : Expr} {m : EM D}
end
/-! flat forms -/
end DL
namespace DL
open PySem PySem.Spec PyProof.Rows L2 MD
variable [TabC]
/-! comparisons by own methods, and with d.values(), as tests -/
section
variable {X : Cx} {E : XK} {O : List Nat} {a b e : Expr} {mo me ma : EM D} {pos : Pos} {C : Str} {ps : List Str} {k k' : Nat} {sp : FSp}
/-! x in d.values() -/
variable {apos cpos : Pos}
end
/-! flat -/
section
variable {a : FM D} {m : EM D}
end
end DL
/-! ### [x, y] != [z, w] by own __eq__, where all are equal -/
namespace GQ
open PySem PySem.SeqAt
open AutoSeq1 (wpAny_loadPart')
open MeetsSeq MeetsSeq2 MeetsSeq3 SeqRoads2
section
variable {prog : Program} {w : World} {A : Around} {R : Result → Shared → Prop}
theorem ne_loopG (l b : Addr) (N : Nat) (I : Nat → Shared → Prop) (hl : ListI prog w A (fun e s' => R (.error e) s') l b N I)
    (fin : ∀ s, I N s → R (.ok (.ret (.bool false))) s) (k : Nat) :
    ∀ i : Nat, N - i = k → i ≤ N → ∀ s, I i s →
      wpAny (model prog w) A.in1 (Builtin.«list.__eq__.loop» ⟨[.ref l, .ref b, rawInt i, rawInt 3], []⟩) (FinOf prog w A R) (fun e s' => R (.error e) s') s := by
  induction k with
  | zero =>
    intro i hk hi s h
    obtain ⟨items, items2, n, n2, hl1, hb1, hs1, hs2, _⟩ := hl _ _ h
    have hi' : i = N := by omega
    have hR : R (.ok (.ret (.bool false))) s := fin s (hi' ▸ h)
    obtain ⟨hp, g, d, tk, os⟩ := s
    wp_walk using wpAny_loadPart' hl1, wpAny_loadPart' hb1
    have hi1 : items[((i : Nat) : Int).toNat]? = none := by simp; omega
    have hi2 : items2[((i : Nat) : Int).toNat]? = none := by simp; omega
    rw [hi1, hi2]
    wp_walk using wpAny_loadPart' hl1, wpAny_loadPart' hb1
    show R (.ok (.ret (.bool (items.size != items2.size)))) _
    rw [hs1, hs2]
    simpa using hR
  | succ k ih =>
    intro i hk hi s h
    obtain ⟨items, items2, n, n2, hl1, hb1, hs1, hs2, turn⟩ := hl _ _ h
    have hlt : i < items.size := by omega
    have hlt2 : i < items2.size := by omega
    have ht := turn hlt hlt2
    obtain ⟨hp, g, d, tk, os⟩ := s
    wp_walk using wpAny_loadPart' hl1, wpAny_loadPart' hb1
    have hi1 : items[((i : Nat) : Int).toNat]? = some items[i] := by simp [hlt]
    have hi2 : items2[((i : Nat) : Int).toNat]? = some items2[i] := by simp [hlt2]
    have hc : ((i : Int) + 1) = ((i + 1 : Nat) : Int) := by omega
    rw [hi1, hi2]
    refine wpAny_bind (wpAny_mono ht (fun r s2 h2 => ?_) fun _ _ x => x)
    obtain ⟨hr, h2⟩ := h2
    subst hr
    have hrec := ih (i + 1) (by omega) (by omega) s2 h2
    obtain ⟨hp2, g2, d2, tk2, os2⟩ := s2
    wp_walk
    rw [hc]
    exact ⟨plainId_quiet plain_eq_loop _, codeAny_builtin entry_eq_loop (by
      rw [Around.under_plainId plain_eq_loop _]
      exact hrec)⟩
theorem list_neG (l b : Addr) (N : Nat) (I : Nat → Shared → Prop) (hl : ListI prog w A (fun e s' => R (.error e) s') l b N I)
    (fin : ∀ s, I N s → R (.ok (.ret (.bool false))) s) {s : Shared} (h : I 0 s) :
    wpAny (model prog w) A.in1 (Builtin.«list.__ne__» ⟨[.ref l, .ref b], []⟩) (FinOf prog w A R) (fun e s' => R (.error e) s') s := by
  obtain ⟨items, items2, n, n2, hl1, hb1, hs1, hs2, _⟩ := hl _ _ h
  have hrec := ne_loopG (A := A) (R := R) l b N I hl fin _ 0 rfl (Nat.zero_le _) s h
  obtain ⟨hp, g, d, tk, os⟩ := s
  have f3 := AutoSeq1.sub_list_list
  have hne : ¬ (items.size != items2.size) = true := by simp [hs1, hs2]
  wp_walk using wpAny_loadPart' hl1, wpAny_loadPart' hb1
  exact ⟨plainId_quiet plain_eq_loop _, codeAny_builtin entry_eq_loop (by
    rw [Around.under_plainId plain_eq_loop _]
    exact hrec)⟩
end
section
variable {prog : Program} {w : World} {A : Around} {E : Value → Shared → Prop} {s : Shared}
theorem rc_listNeG {l b : Addr} {N : Nat} {Q : Value → Shared → Prop} (hu : A.units < cLine) (I : Nat → Shared → Prop) (hl : ListI prog w A E l b N I)
    (fin : ∀ s, I N s → Q (.bool false) s) (h : I 0 s) : wpAny (model prog w) A (richCompare .NotEq (.ref l) (.ref b)) Q E s := by
  obtain ⟨items, items2, n, n2, hl1, hb1, _, _, _⟩ := hl _ _ h
  refine wpAny_richCompare_same_room (op := .NotEq) ⟨_, hl1, rfl⟩ ⟨_, hb1, rfl⟩ F.slot_list_ne (call_here F.slot_list_ne ⟨_, hl1, rfl⟩ F.entry_list_ne (F.args_list_ne_2 _ _) ?_) hu
  exact list_neG (R := wants (fun v s' => v ≠ .notImplemented ∧ Q v s') E) l b N I hl (fun s' q => ⟨(fun x => nomatch x), fin s' q⟩) h
end
end GQ
namespace DL
open PySem PySem.Spec PyProof.Rows L2
variable [TabC]
section
variable {X : Cx} {CX : CXT} {C f : Addr} {fd : FuncData} {ps : List Str} {sp : Sp} {E : XK} {k : Nat}
end
section
variable {X : Cx} {CX : CXT} {C1 f1 C2 f2 : Addr} {fd1 fd2 : FuncData} {ps1 ps2 : List Str} {sp1 sp2 : Sp} {E : XK} {k k2 : Nat}
end

section
variable {X : Cx} {E : XK} {O : List Nat} {a b : Expr} {mo me : EM D} {pos : Pos} {C1 C2 : Str} {ps1 ps2 : List Str} {k1 k2 k' : Nat} {f1 f2 : FFn}
end
end DL
namespace DL
open PySem PySem.Spec PyProof.Rows L2
open PySem.SeqAt PySem.AutoSeq1 PySem.MeetsSeq PySem.MeetsSeq2 PySem.MeetsSeq3 PySem.SeqRoads2
variable [TabC]
/-! ### l != m, two lists of dicts that are equal -/
def eqLD : List D → List D → Bool
  | [], [] => true
  | .dic k :: r, .dic m :: q => okK k && okK m && eqDD k m && eqLD r q
  | _, _ => false
section
variable {X : Cx} {pins : List (Addr × Obj)} {σ : L2.St} {H : Hp} {s : Shared} {aS : Addr} {A : AS}
theorem pairs_told (I : Inv X pins σ H s) {B : Around} (hA : A aS) (hu : B.units + 65 < cLine) : ∀ (ds es : List D) (xs ys : List V) (us ws : List Value), eqLD ds es = true → RepL X.K aS H A ds xs → RepL X.K aS H A es ys → Vals xs us → Vals ys ws → us.length = ws.length ∧ ∀ (i : Nat) (v u : Value), us[i]? = some v → ws[i]? = some u → EqP X.prog X.w B s v u true
  | [], [], xs, ys, us, ws, h, r1, r2, q1, q2 => by
    rw [RepL] at r1 r2
    subst r1 r2
    cases q1
    cases q2
    exact ⟨rfl, fun i v u hv _ => by cases hv⟩
  | d :: ds, [], _, _, _, _, h, _, _, _, _ => by cases d <;> cases h
  | [], e :: es, _, _, _, _, h, _, _, _, _ => by cases e <;> cases h
  | d :: ds, e :: es, xs, ys, us, ws, h, r1, r2, q1, q2 => by
    rw [RepL] at r1 r2
    obtain ⟨v, vr, rfl, r1, r1'⟩ := r1
    obtain ⟨w, wr, rfl, r2, r2'⟩ := r2
    cases q1 with
    | @cons _ v' _ vs' q1 q1' =>
      cases q2 with
      | @cons _ w' _ ws' q2 q2' =>
        cases d with
        | dic k =>
          cases e with
          | dic m =>
            have h : (okK k && okK m && eqDD k m && eqLD ds es) = true := h
            simp only [Bool.and_eq_true] at h
            obtain ⟨⟨⟨o1, o2⟩, o3⟩, o4⟩ := h
            obtain ⟨e1, e3⟩ := pairs_told I hA hu ds es vr wr vs' ws' o4 r1' r2' q1' q2'
            refine ⟨by rw [List.length_cons, List.length_cons, e1], fun i v u hv hw => ?_⟩
            cases i with
            | zero =>
              cases hv
              cases hw
              have := eqP_dicts I (B := B) o1 o2 (r1.b hA) (r2.b hA) q1 q2 hu
              rw [o3] at this
              exact this
            | succ i => exact e3 i v u hv hw
          | _ => cases h
        | _ => cases e <;> cases h
end
def rNeDL (K : PySem.W.Frag) : R2 := fun x y H Q => ∃ (aS : Addr) (A : AS) (a b : Addr) (xs ys : List V) (ds es : List D), x = .ref a ∧ y = .ref b ∧ H a = some (.lst xs) ∧ H b = some (.lst ys) ∧ RepL K aS H A ds xs ∧ RepL K aS H A es ys ∧ A aS ∧ eqLD ds es = true ∧ Q (.bl false) H
section
variable {X : Cx}
theorem op_neDL (hu : X.A.units + 66 < cLine) : OpR X (compareOp .NotEq) (rNeDL X.K) := by
  intro pins s σ H x y v u Q I rx ry h
  obtain ⟨aS, A, a, b, xs, ys, ds, es, rfl, rfl, ha, hb, r1, r2, hA, he, q⟩ := h
  cases (show v = Value.ref a from rx)
  cases (show u = Value.ref b from ry)
  obtain ⟨_, us, n1, v1, g1⟩ := (show ObjOk X.prog X.w H s.heap a (.lst xs) from I.hok a _ ha)
  obtain ⟨_, ws, n2, v2, g2⟩ := (show ObjOk X.prog X.w H s.heap b (.lst ys) from I.hok b _ hb)
  obtain ⟨el, ep⟩ := pairs_told I (B := X.A.in1) hA (by rw [Around.in1_units]; omega) ds es xs ys us ws he r1 r2 v1 v2
  show wpAny (model X.prog X.w) X.A (richCompare .NotEq _ _) (EP X pins σ Q) X.xe s
  refine GQ.rc_listNeG (by omega) (N := us.length) (fun _ s' => s' = s) (fun i s' e => ?_) (fun s' e => by rw [e]; exact ⟨.bl false, H, I, rfl, q⟩) rfl
  subst e
  refine ⟨us.toArray, ws.toArray, n1, n2, g1, g2, List.size_toArray, by rw [List.size_toArray, el], fun h1 h2 => ?_⟩
  exact ep i _ _ (by rw [List.getElem?_eq_getElem (by simpa using h1)]; simp) (by rw [List.getElem?_eq_getElem (by simpa using h2)]; simp) _ _ ⟨rfl, rfl⟩
def dNeDL (a b : D) : Option D := match a, b with
  | .lst ds, .lst es => if eqLD ds es = true then some (.bl false) else dNeX (.lst ds) (.lst es)
  | a, b => dNeX a b
theorem od_neDL (hu : X.A.units + 66 < cLine) : OpD X (compareOp .NotEq) dNeDL := by
  obtain ⟨r0, h0, k0⟩ := od_neX (X := X) hu
  refine ⟨_, OpR.or (op_neDL hu) h0, fun aS H A n d1 d2 d v1 v2 Q c r1 r2 e w => ?_⟩
  unfold dNeDL at e
  split at e
  · split at e
    · rename_i ds es h
      cases e
      obtain ⟨a, xs, e1, _, g1, q1⟩ := repB_lst r1
      obtain ⟨b, ys, e2, _, g2, q2⟩ := repB_lst r2
      exact .inl ⟨aS, A, a, b, xs, ys, ds, es, e1, e2, g1, g2, q1, q2, c.a, h, w _ _ KpS.refl c.st rep_bl⟩
    · exact .inr (k0 aS H A n _ _ _ v1 v2 Q c r1 r2 e w)
  · exact .inr (k0 aS H A n _ _ _ v1 v2 Q c r1 r2 e w)
end
end DL
namespace DL
open PySem PySem.Spec PyProof.Rows L2
variable [TabC]
/-! ### hangings, waits -/
end DL
namespace DL
open PySem PySem.Spec PyProof.Rows L2
variable [TabC]
end DL
namespace DL
open PySem PySem.Spec PyProof.Rows L2
variable [TabC]
end DL
namespace TR
open PySem PySem.Spec PyProof.Rows L2
variable {X : Cx}
end TR
namespace DL.K08
open PySem PySem.Spec PyProof.Rows L2
variable [TabC]
abbrev N__law_mix : List Str := ["_law_state", "_law_things", "_law_left", "_law_found_here"]
def B__law_mix : SM :=
  (sSeq (upS (fParFF 2 3 (fBlt dList (fCons (fVar 1) fNil)) (fLst fNil))) (sSeq (sWhile (up (fBinT dNe (fVar 2) (fLst fNil))) (sAppPop 3 2 (eCall 2 sp__law_take [] (up (fCons (fVar 0) (fCons (fBlt dLen (fCons (fVar 2) fNil)) fNil)))))) (upS (fRet (fVar 3)))))
abbrev N__law_names : List Str := ["_law_state", "_law_many", "_law_some_here"]
def B__law_names : SM :=
  (sSeq (upS (fSet 2 (fLst (fCons (fC (.str "a")) (fCons (fC (.str "b")) (fCons (fC (.str "rice")) (fCons (fC (.str "fish")) (fCons (fC (.str "start")) (fCons (fC (.str "done")) (fCons (fC (.str "wish")) (fCons (fC (.str "zz")) fNil))))))))))) (sRet (eSl (eCall 2 sp__law_mix [] (up (fCons (fVar 0) (fCons (fBin dAdd (fVar 2) (fLst (fCons (fC (.str "station")) (fCons (fC (.str "clocks")) (fCons (fC (.str "abcdefgh")) (fCons (fC (.str "meal")) (fCons (fC (.str "go")) (fCons (fC (.str "wait")) (fCons (fC (.str "cloc")) (fCons (fC (.str "on")) fNil)))))))))) fNil)))) (up fNone) (up (fSome (fVar 1))))))
abbrev N__law_some : List Str := ["_law_state", "_law_things", "_law_thing"]
def B__law_some : SM :=
  (sRet (eLc (up (fIter (fVar 1))) [2] (upG (fgNm 2)) (eBinT dEq (eCall 2 sp__law_take [] (up (fCons (fVar 0) (fCons (fC (.int 2)) fNil)))) (up (fC (.int 0)))) (up (fVar 2))))
abbrev N_Hanging_rows : List Str := ["self"]
def B_Hanging_rows : FS :=
  (fRet (fBlt dDict (fCons (fFld "Hanging" "anchors" (fVar 0)) fNil)))
def f_Hanging_rows : FFn := runB N_Hanging_rows B_Hanging_rows
abbrev N__law_found : List Str := ["_law_names_here", "_law_looks", "_law_hanging"]
def B__law_found : FS :=
  (fRet (fLc (GF.fGen 2 f_hangings (fCons (fVar 0) (fCons (fVar 1) fNil))) [2] (fgNm 2) fYes (fMeth "Hanging" "rows" 1 f_Hanging_rows [] (fVar 2) fNil)))
def f__law_found : FFn := runB N__law_found B__law_found
abbrev N__law_rising : List Str := ["_law_things", "_law_found_here", "_law_thing", "_law_x"]
def b__law_rising_1 : FS := (fIns 1 (fCons (fBlt dLen (fCons (fLc (fOwnL 1) ([3] ++ [1]) (fgNm 3) (fBinT dLe (fVar 3) (fVar 2)) (fVar 3)) fNil)) (fCons (fVar 2) fNil)))
def B__law_rising : FS :=
  (fSeq (fSetF 1 (fLst fNil)) (fSeq (fFor (fIter (fVar 0)) (fgNm 2) (b__law_rising_1)) (fRet (fVar 1))))
def f__law_rising : FFn := runB N__law_rising B__law_rising
abbrev N__law_with : List Str := ["_law_things", "_law_name", "_law_thing", "_law_found_here"]
def B__law_with : FS :=
  (fSeq (fSetF 3 (fBlt dDict (fCons (fVar 0) fNil))) (fSeq (fDput 3 (fVar 1) (fVar 2)) (fRet (fVar 3))))
def f__law_with : FFn := runB N__law_with B__law_with
abbrev N__law_trees : List Str := ["_law_names_here", "_law_looks", "_law_found_here", "_law_name", "_law_longer", "_law_anchors", "_law_on", "_law_look"]
def b__law_trees_1 : FS := (fApp 4 (fCall 3 f__law_with [] (fCons (fVar 5) (fCons (fVar 3) (fCons (fVar 6) fNil)))))
def b__law_trees_2 : FS := (fFor (fIter (fBin dAdd (fLst (fCons (fC (.str "clock")) fNil)) (fLc (fIter (fVar 1)) [7] (fgNm 7) (fBinT dIn (fVar 7) (fVar 0)) (fVar 7)))) (fgNm 6) (b__law_trees_1))
def b__law_trees_3 : FS := (fSeq (fSetF 4 (fLst fNil)) (fSeq (fFor (fIter (fVar 2)) (fgNm 5) (b__law_trees_2)) (fSet 2 (fBlt dList (fCons (fVar 4) fNil)))))
def B__law_trees : FS :=
  (fSeq (fSet 2 (fLst (fCons (fC (.dic [])) fNil))) (fSeq (fFor (fIter (fVar 0)) (fgNm 3) (b__law_trees_3)) (fRet (fLc (fIter (fVar 2)) [5] (fgNm 5) (fVal (fCall 1 f__law_is_tree [] (fCons (fVar 5) fNil))) (fVar 5)))))
def f__law_trees : FFn := runB N__law_trees B__law_trees
abbrev N_law : List Str := ["_law_script", "_law_state", "_law_turn", "_law_names_here", "_law_looks", "_law_found_here", "_law_due", "_law_name", "_law_hanging", "_law_k", "_law_x", "_law_rows"]
def B_law : SM :=
  (sSeq (sFor (up (fRange1 (fC (.int 3)))) (upG (fgNm 2)) (sSeq (sSet 3 (eCall 2 sp__law_names [] (eCons (up (fVar 1)) (eCons (eCall 2 sp__law_take [] (up (fCons (fVar 1) (fCons (fC (.int 5)) fNil)))) (up fNil))))) (sSeq (sSet 4 (eCall 2 sp__law_one [] (eCons (up (fVar 1)) (eCons (eLst (eCons (up (fLst fNil)) (eCons (up (fVar 3)) (eCons (eCall 2 sp__law_some [] (up (fCons (fVar 1) (fCons (fVar 3) fNil)))) (eCons (eCall 2 sp__law_mix [] (up (fCons (fVar 1) (fCons (fBin dAdd (fBin dAdd (fVar 3) (fSl (fVar 3) fNone (fSome (fC (.int 1))))) (fLst (fCons (fC (.str "qq")) fNil))) fNil)))) (up fNil)))))) (up fNil))))) (sSeq (sSet 5 (eCall 2 (FSp.of f__law_found) [] (eCons (eCall 2 sp__law_one [] (up (fCons (fVar 1) (fCons (fLst (fCons (fVar 3) (fCons (fBlt dTuple (fCons (fVar 3) fNil)) fNil))) fNil)))) (eCons (eCall 2 sp__law_one [] (up (fCons (fVar 1) (fCons (fLst (fCons (fVar 4) (fCons (fBlt dTuple (fCons (fVar 4) fNil)) fNil))) fNil)))) (up fNil))))) (upS (fSeq (fSet 6 (fCall 2 f__law_trees [] (fCons (fVar 3) (fCons (fCall 1 f__law_rising [] (fCons (fLc (fEnum (fVar 4)) [9, 10] (fgTp (fgsCons (fgNm 9) (fgsCons (fgNm 10) fgsNil))) (fBinT dNotInX (fVar 10) (fSl (fVar 4) fNone (fSome (fVar 9)))) (fVar 10)) fNil)) fNil)))) (fSeq (fIfS (fOrT (fBinT dNeX (fBlt dLen (fCons (fVar 5) fNil)) (fBlt dLen (fCons (fVar 6) fNil))) (fNotT (fVal (fBlt dAll (fCons (fLc (fIter (fVar 6)) [11] (fgNm 11) fYes (fBin dEqX (fCountX (fVar 5) (fVar 11)) (fC (.int 1)))) fNil))))) (fRet (fC (.bl false))) fNilS) (fSeq (fIfS (fAndT (fVal (fBlt dAll (fCons (fLc (fIter (fVar 3)) [7] (fgNm 7) fYes (fBin dInX (fVar 7) (fVar 4))) fNil))) (fBinT dNeX (fBlt dLen (fCons (fVar 5) fNil)) (fBin dIdx (fLst (fCons (fC (.int 1)) (fCons (fC (.int 1)) (fCons (fC (.int 3)) (fCons (fC (.int 16)) (fCons (fC (.int 125)) fNil)))))) (fBlt dLen (fCons (fVar 3) fNil))))) (fRet (fC (.bl false))) fNilS) (fSeq (fIfS (fNotT (fVal (fBlt dAll (fCons (fLc (GF.fGen 2 f_hangings (fCons (fVar 3) (fCons (fLst fNil) fNil))) [8] (fgNm 8) fYes (fIsC "Hanging" (fVar 8))) fNil)))) (fRet (fC (.bl false))) fNilS) (fIfS (fBinT dNeDL (fCall 2 f__law_found [] (fCons (fVar 3) (fCons (fLst fNil) fNil))) (fLst (fCons (fBlt dDict (fCons (fLc (fIter (fCall 1 f__law_rising [] (fCons (fVar 3) fNil))) [7] (fgNm 7) fYes (fTup (fCons (fVar 7) (fCons (fC (.str "clock")) fNil)))) fNil)) fNil))) (fRet (fC (.bl false))) fNilS)))))))))) (upS (fRet (fC (.bl true)))))
end DL.K08
namespace DL
open PySem PySem.Spec PyProof.Rows L2
variable [TabC]
theorem lv {X : Cx} {E : XK} {O : List Nat} {x : Str} {pos : Pos} (i : Nat) (hi : i ∉ O := by decide) (hN : X.N[i]? = some x := by rfl) (hv : Vis X.env.scope x := by first | exact .inl rfl | exact .inr (.inl rfl) | exact .inr (.inr rfl))
    (hd : (x == ("__debug__" : Str)) = false := by decide) (hcd : (x == ("__classdict__" : Str)) = false := by decide) : VE X E O (.Name x pos) (up (fVar i)) := lo (ve_var hi hN hv hd hcd) (le_var _)
theorem cxq {P : Program} {w : World} {K : PySem.W.Frag} {mg : Str → Option Value} {base : Heap} (N : List Str) (qual : Str) (scope : Scope) (f : Addr) (cdv : Value) (A : Around) (outer : List Env) (s : Shared) (H : Hp) (E : XK) :
    TK (CxD P w K mg base N qual scope f cdv A outer s H E) (EU H E) ∧ PassesOwn (model P w) (CxD P w K mg base N qual scope f cdv A outer s H E).A (CxD P w K mg base N qual scope f cdv A outer s H E).env (CxD P w K mg base N qual scope f cdv A outer s H E).xe ∧ UC (CxD P w K mg base N qual scope f cdv A outer s H E) (EU H E) := ⟨cx_tk, cx_po, cx_uc⟩
end DL
namespace DL.K08
open PySem PySem.Spec PyProof.Rows L2 HX
variable [TabC]
abbrev k__law_take : Nat := 1
abbrev k__law_mix : Nat := 2
theorem sc__law_mix : FnScope N__law_mix ["_law_state", "_law_things"] (defScope (top 22)) := ⟨rfl, rfl, rfl, by decide +kernel, rfl, by decide +kernel, by decide +kernel⟩
theorem d__law_mix {P : Program} {w : World} {K : PySem.W.Frag} {mg : Str → Option Value} {base : Heap} (G__law_take : GFn P w K mg base "_law_take" k__law_take ["_law_state", "_law_many"] (lift K 2 sp__law_take)) (f_len : mg "len" = none) (f_list : mg "list" = none) : Body P w K mg base N__law_mix "_law_mix" (defScope (top 22)) 1 [] [3, 2] (defBody (top 22)) (B__law_mix) := by
  have nd := sc__law_mix.nd
  intro f cdv A outer s H E hr
  have ⟨tk, po, _⟩ := cxq (P := P) (w := w) (K := K) (mg := mg) (base := base) N__law_mix "_law_mix" (defScope (top 22)) f cdv A outer s H E
  exact vss_cons (loS (vs_parFF (i := 2) (j := 3) (by decide) (by decide) (by decide) (by decide) rfl nd rfl rfl (by decide) rfl rfl (loF (vf_callTy (cf_list rfl) rfl f_list boot_list (loA (va_cons stbB (VE.b (lv 1)) (loA va_nil le_nil)) le_cons)) le_blt) (loF (vf_lst (loA va_nil le_nil)) le_lst) rfl) ls_parFF) (vss_cons (vs_while po (loT (vt_cmp (od_ne (Room.u64 hr)) (lo (vb_var (i := 2) (by decide) rfl (by first | exact .inl rfl | exact .inr (.inl rfl) | exact .inr (.inr rfl))) (le_var _)) (VE.b (VF.ve (loF (vf_lst (loA va_nil le_nil)) le_lst))) (nomark _)) le_binT) (vss_one (vs_appPop (i := 2) (j := 3) (by decide) (by decide) (by decide) rfl (by first | exact .inl rfl | exact .inr (.inl rfl) | exact .inr (.inr rfl)) rfl (by first | exact .inl rfl | exact .inr (.inl rfl) | exact .inr (.inr rfl)) (ve_g tk rfl G__law_take hr (by decide) rfl (loA (va_cons stbE (lv 0) (loA (va_cons stbE (lo (ve_callB cd_len rfl f_len boot_len (loA (va_cons stbB (lo (vb_var (i := 2) (by decide) rfl (by first | exact .inl rfl | exact .inr (.inl rfl) | exact .inr (.inr rfl))) (le_var _)) (loA va_nil le_nil)) le_cons)) le_blt) (loA va_nil le_nil)) le_cons)) le_cons))))) (vss_one (loS (vs_retO (i := 3) (by decide) rfl (by first | exact .inl rfl | exact .inr (.inl rfl) | exact .inr (.inr rfl))) ls_retV)))
abbrev k__law_names : Nat := 3
theorem sc__law_names : FnScope N__law_names ["_law_state", "_law_many"] (defScope (top 24)) := ⟨rfl, rfl, rfl, by decide +kernel, rfl, by decide +kernel, by decide +kernel⟩
theorem d__law_names {P : Program} {w : World} {K : PySem.W.Frag} {mg : Str → Option Value} {base : Heap} (G__law_mix : GFn P w K mg base "_law_mix" k__law_mix ["_law_state", "_law_things"] (lift K 2 sp__law_mix)) : Body P w K mg base N__law_names "_law_names" (defScope (top 24)) 2 [] [] (defBody (top 24)) (B__law_names) := by
  have nd := sc__law_names.nd
  intro f cdv A outer s H E hr
  have ⟨tk, _, _⟩ := cxq (P := P) (w := w) (K := K) (mg := mg) (base := base) N__law_names "_law_names" (defScope (top 24)) f cdv A outer s H E
  exact vss_cons (loS (vs_set (i := 2) (by decide) nd rfl (by first | exact .inl rfl | exact .inr rfl) (VF.ve (loF (vf_lst (loA (va_cons stbE (lo (ve_str) le_c) (loA (va_cons stbE (lo (ve_str) le_c) (loA (va_cons stbE (lo (ve_str) le_c) (loA (va_cons stbE (lo (ve_str) le_c) (loA (va_cons stbE (lo (ve_str) le_c) (loA (va_cons stbE (lo (ve_str) le_c) (loA (va_cons stbE (lo (ve_str) le_c) (loA (va_cons stbE (lo (ve_str) le_c) (loA va_nil le_nil)) le_cons)) le_cons)) le_cons)) le_cons)) le_cons)) le_cons)) le_cons)) le_cons)) le_lst))) ls_set) (vss_one (vs_ret (ve_slice (VE.b (ve_g tk rfl G__law_mix hr (by decide) rfl (loA (va_cons stbE (lv 0) (loA (va_cons stbE (lo (ve_bin od_add (VE.b (lv 2)) (VE.b (VF.ve (loF (vf_lst (loA (va_cons stbE (lo (ve_str) le_c) (loA (va_cons stbE (lo (ve_str) le_c) (loA (va_cons stbE (lo (ve_str) le_c) (loA (va_cons stbE (lo (ve_str) le_c) (loA (va_cons stbE (lo (ve_str) le_c) (loA (va_cons stbE (lo (ve_str) le_c) (loA (va_cons stbE (lo (ve_str) le_c) (loA (va_cons stbE (lo (ve_str) le_c) (loA va_nil le_nil)) le_cons)) le_cons)) le_cons)) le_cons)) le_cons)) le_cons)) le_cons)) le_cons)) le_lst)))) le_bin) (loA va_nil le_nil)) le_cons)) le_cons))) (loO vo_none le_none) (loO (vo_some (VE.b (lv 1))) le_some))))
abbrev k__law_some : Nat := 2
theorem sc__law_some : FnScope N__law_some ["_law_state", "_law_things"] (defScope (top 23)) := ⟨rfl, rfl, rfl, by decide +kernel, rfl, by decide +kernel, by decide +kernel⟩
theorem d__law_some {P : Program} {w : World} {K : PySem.W.Frag} {mg : Str → Option Value} {base : Heap} (G__law_take : GFn P w K mg base "_law_take" k__law_take ["_law_state", "_law_many"] (lift K 2 sp__law_take)) : Body P w K mg base N__law_some "_law_some" (defScope (top 23)) 1 [] [] (defBody (top 23)) (B__law_some) := by
  have nd := sc__law_some.nd
  intro f cdv A outer s H E hr
  exact vss_one (vs_ret (VF.ve (xf_lc rfl rfl nd (VIs.vi (loIs (vi_seq (lv 1)) le_iter)) (blkOk_by (own := [("_law_thing", 2)]) (N := N__law_some) (sc := defScope (top 23)) (by decide +kernel)) (by decide) (by decide) (fun c => loG (vg_name (i := 2) (by decide) nd rfl (by first | exact .inl rfl | exact .inr rfl)) (lg_nm)) (fun c => vts_one (vt_cmp (od_eq (Room.u64 hr)) (VE.b (ve_g tk_f rfl G__law_take hr (by decide) rfl (loA (va_cons stbE (lv 0) (loA (va_cons stbE (lo (ve_int) le_c) (loA va_nil le_nil)) le_cons)) le_cons))) (VE.b (lo (ve_int) le_c)) (nomark _))) (fun c => lo (ve_var (i := 2) (by decide) rfl (by first | exact .inl rfl | exact .inr (.inl rfl) | exact .inr (.inr rfl))) (le_var _)))))
abbrev k__law_one : Nat := 2
theorem sc__law_one : FnScope N__law_one ["_law_state", "_law_things"] (defScope (top 21)) := ⟨rfl, rfl, rfl, by decide +kernel, rfl, by decide +kernel, by decide +kernel⟩
theorem d__law_one {P : Program} {w : World} {K : PySem.W.Frag} {mg : Str → Option Value} {base : Heap} (G__law_take : GFn P w K mg base "_law_take" k__law_take ["_law_state", "_law_many"] (lift K 2 sp__law_take)) (f_len : mg "len" = none) : Body P w K mg base N__law_one "_law_one" (defScope (top 21)) 1 [] [] (defBody (top 21)) (B__law_one) := by
  have nd := sc__law_one.nd
  intro f cdv A outer s H E hr
  have ⟨tk, _, _⟩ := cxq (P := P) (w := w) (K := K) (mg := mg) (base := base) N__law_one "_law_one" (defScope (top 21)) f cdv A outer s H E
  exact vss_one (vs_ret (ve_sub (Room.u hr) (VE.b (lv 1)) (VE.b (ve_g tk rfl G__law_take hr (by decide) rfl (loA (va_cons stbE (lv 0) (loA (va_cons stbE (lo (ve_callB cd_len rfl f_len boot_len (loA (va_cons stbB (VE.b (lv 1)) (loA va_nil le_nil)) le_cons)) le_blt) (loA va_nil le_nil)) le_cons)) le_cons))) (fun _ _ => rfl)))
abbrev k_is_name : Nat := 1
theorem sc_is_name : FnScope N_is_name ["thing"] (defScope (top 9)) := ⟨rfl, rfl, rfl, by decide +kernel, rfl, by decide +kernel, by decide +kernel⟩
theorem d_is_name {P : Program} {w : World} {K : PySem.W.Frag} {mg : Str → Option Value} {base : Heap} (c_CLOCK : ∃ t, mg "CLOCK" = some (.str "clock" t)) (c_LETTERS : ∃ t, mg "LETTERS" = some (.str "abcdefghijklmnopqrstuvwxyz" t)) (c_MOST_LETTERS : ∃ t, mg "MOST_LETTERS" = some (.int 8 t)) (f_all : mg "all" = none) (f_isinstance : mg "isinstance" = none) (f_len : mg "len" = none) (f_str : mg "str" = none) : Body P w K mg base N_is_name "is_name" (defScope (top 9)) 0 [] [] (defBody (top 9)) (upS (B_is_name)) := by
  have nd := sc_is_name.nd
  intro f cdv A outer s H E hr
  exact loSs (vss_cons (loS (vs_if (VW.t (loW (vw_or (loT (vt_not (loT (vt_val (lo (ve_callB cd_isi rfl f_isinstance boot_isinstance (loA (va_cons stbB (VE.b (lv 0)) (loA (va_cons stbB (VE.b (lo (ve_bty (T := "str") rfl f_str boot_str) le_c)) (loA va_nil le_nil)) le_cons)) le_cons)) le_blt)) le_val)) le_notT) (loW (vw_or (loT (vt_cmp (od_eq (Room.u64 hr)) (VE.b (lv 0)) (VE.b (lo (ve_gstr rfl c_CLOCK) le_c)) (nomark _)) le_binT) (vw_or1 (loT (vt_not (loT (vt_chain (od_le (Room.u64 hr)) (od_le (Room.u64 hr)) (VE.b (lo (ve_int) le_c)) (VE.b (lo (ve_callB cd_len rfl f_len boot_len (loA (va_cons stbB (VE.b (lv 0)) (loA va_nil le_nil)) le_cons)) le_blt)) (VE.b (lo (ve_gint rfl c_MOST_LETTERS) le_c))) le_chainT)) le_notT))) le_orT)) le_orT)) (vss_one (loS (vs_ret (lo (ve_bl) le_c)) ls_ret)) (loSs vss_nil ls_nil)) ls_if) (vss_one (loS (vs_ret (lo (ve_callB (cd_all rfl) rfl f_all boot_all (loA (va_cons stbB (VE.b (VF.ve (loF (xf_lc rfl rfl nd (VIs.vi (loIs (vi_seq (lv 0)) le_iter)) (blkOk_by (own := [("sign", 1)]) (N := N_is_name) (sc := defScope (top 9)) (by decide +kernel)) (by decide) (by decide) (fun c => loG (vg_name (i := 1) (by decide) nd rfl (by first | exact .inl rfl | exact .inr rfl)) (lg_nm)) (fun c => loTs vts_nil le_yes) (fun c => lo (ve_cmp (od_in (Room.u65 hr)) (VE.b (lv 1)) (VE.b (lo (ve_gstr rfl c_LETTERS) le_c)) rfl) le_bin)) le_lc))) (loA va_nil le_nil)) le_cons)) le_blt)) ls_ret))) ls_seq
abbrev k_is_anchor : Nat := 1
theorem sc_is_anchor : FnScope N_is_anchor ["thing", "names"] (defScope (top 12)) := ⟨rfl, rfl, rfl, by decide +kernel, rfl, by decide +kernel, by decide +kernel⟩
theorem d_is_anchor {P : Program} {w : World} {K : PySem.W.Frag} {mg : Str → Option Value} {base : Heap} (c_CLOCK : ∃ t, mg "CLOCK" = some (.str "clock" t)) (f_list : mg "list" = none) : Body P w K mg base N_is_anchor "is_anchor" (defScope (top 12)) 0 [] [] (defBody (top 12)) (upS (B_is_anchor)) := by
  have nd := sc_is_anchor.nd
  intro f cdv A outer s H E hr
  exact vss_one (loS (vs_ret (lo (ve_or (lo (ve_cmp (od_eq (Room.u64 hr)) (VE.b (lv 0)) (VE.b (lo (ve_gstr rfl c_CLOCK) le_c)) (nomark _)) le_bin) (ve_one (lo (ve_cmp (od_in (Room.u65 hr)) (VE.b (lv 0)) (VE.b (VF.ve (loF (vf_callTy (cf_list rfl) rfl f_list boot_list (loA (va_cons stbB (VE.b (lv 1)) (loA va_nil le_nil)) le_cons)) le_blt))) rfl) le_bin))) le_or)) ls_ret)
abbrev k_rising : Nat := 1
theorem sc_rising : FnScope N_rising ["things"] (defScope (top 10)) := ⟨rfl, rfl, rfl, by decide +kernel, rfl, by decide +kernel, by decide +kernel⟩
theorem d_rising {P : Program} {w : World} {K : PySem.W.Frag} {mg : Str → Option Value} {base : Heap} (f_len : mg "len" = none) : Body P w K mg base N_rising "rising" (defScope (top 10)) 0 [] [1] (defBody (top 10)) (upS (B_rising)) := by
  have nd := sc_rising.nd
  intro f cdv A outer s H E hr
  have ⟨_, po, _⟩ := cxq (P := P) (w := w) (K := K) (mg := mg) (base := base) N_rising "rising" (defScope (top 10)) f cdv A outer s H E
  exact loSs (vss_cons (loS (vs_setF (i := 1) (by decide) (by decide) nd rfl (by first | exact .inl rfl | exact .inr rfl) (loF (vf_lst (loA va_nil le_nil)) le_lst)) ls_setF) (loSs (vss_cons (loS (vs_for po rfl (loIs (vi_seq (lv 0)) le_iter) (loG (vg_name (i := 2) (by decide) nd rfl (by first | exact .inl rfl | exact .inr rfl)) (lg_nm)) ((show VSs _ _ _ _ _ _ (upS (b_rising_1)) from vss_one (loS (vs_insert (i := 1) (by decide) rfl (by first | exact .inl rfl | exact .inr (.inl rfl) | exact .inr (.inr rfl)) (loA (va_cons stbE (lo (ve_callB cd_len rfl f_len boot_len (loA (va_cons stbB (VE.b (VF.ve (loF (xf_lc rfl rfl nd (loI (vi_ownS (i := 1) rfl (by decide) rfl (by first | exact .inl rfl | exact .inr (.inl rfl) | exact .inr (.inr rfl))) le_own) (blkOk_by (own := [("one", 3)]) (N := N_rising) (sc := defScope (top 10)) (by decide +kernel)) (by decide) (by decide) (fun c => loG (vg_name (i := 3) (by decide) nd rfl (by first | exact .inl rfl | exact .inr rfl)) (lg_nm)) (fun c => vts_one (loT (vt_cmp (od_le (Room.u64 hr)) (VE.b (lv 3)) (VE.b (lv 2)) (nomark _)) le_binT)) (fun c => lo (ve_var (i := 3) (by decide) rfl (by first | exact .inl rfl | exact .inr (.inl rfl) | exact .inr (.inr rfl))) (le_var _))) le_lc))) (loA va_nil le_nil)) le_cons)) le_blt) (loA (va_cons stbE (lv 2) (loA va_nil le_nil)) le_cons)) le_cons)) ls_ins)))) ls_for) (vss_one (loS (vs_retO (i := 1) (by decide) rfl (by first | exact .inl rfl | exact .inr (.inl rfl) | exact .inr (.inr rfl))) ls_retV))) ls_seq)) ls_seq
abbrev k_way_up : Nat := 1
theorem sc_way_up : FnScope N_way_up ["anchors", "name"] (defScope (top 13)) := ⟨rfl, rfl, rfl, by decide +kernel, rfl, by decide +kernel, by decide +kernel⟩
theorem d_way_up {P : Program} {w : World} {K : PySem.W.Frag} {mg : Str → Option Value} {base : Heap} (c_CLOCK : ∃ t, mg "CLOCK" = some (.str "clock" t)) : Body P w K mg base N_way_up "way_up" (defScope (top 13)) 0 [] [2] (defBody (top 13)) (upS (B_way_up)) := by
  have nd := sc_way_up.nd
  intro f cdv A outer s H E hr
  have ⟨_, po, _⟩ := cxq (P := P) (w := w) (K := K) (mg := mg) (base := base) N_way_up "way_up" (defScope (top 13)) f cdv A outer s H E
  exact loSs (vss_cons (loS (vs_setF (i := 2) (by decide) (by decide) nd rfl (by first | exact .inl rfl | exact .inr rfl) (loF (vf_lst (loA va_nil le_nil)) le_lst)) ls_setF) (loSs (vss_cons (loS (vs_set (i := 3) (by decide) nd rfl (by first | exact .inl rfl | exact .inr rfl) (lo (ve_dget (Room.u hr) (VE.b (lv 0)) (lv 1) (lo (ve_gstr rfl c_CLOCK) le_c)) le_dget)) ls_set) (loSs (vss_cons (loS (vs_while po (VW.t (loW (vw_and (loT (vt_cmp (od_ne (Room.u64 hr)) (VE.b (lv 3)) (VE.b (lo (ve_gstr rfl c_CLOCK) le_c)) (nomark _)) le_binT) (vw_and1 (loT (vt_cmp (od_notIn (Room.u65 hr)) (VE.b (lv 3)) (lo (vb_var (i := 2) (by decide) rfl (by first | exact .inl rfl | exact .inr (.inl rfl) | exact .inr (.inr rfl))) (le_var _)) rfl) le_binT))) le_andT)) ((show VSs _ _ _ _ _ _ (upS (b_way_up_1)) from loSs (vss_cons (loS (vs_append (i := 2) (by decide) rfl (by first | exact .inl rfl | exact .inr (.inl rfl) | exact .inr (.inr rfl)) (lv 3)) ls_app) (vss_one (loS (vs_set (i := 3) (by decide) nd rfl (by first | exact .inl rfl | exact .inr rfl) (lo (ve_dget (Room.u hr) (VE.b (lv 0)) (lv 3) (lo (ve_gstr rfl c_CLOCK) le_c)) le_dget)) ls_set))) ls_seq))) ls_while) (vss_one (loS (vs_retO (i := 2) (by decide) rfl (by first | exact .inl rfl | exact .inr (.inl rfl) | exact .inr (.inr rfl))) ls_retV))) ls_seq)) ls_seq)) ls_seq
abbrev k_round_from : Nat := 1
theorem sc_round_from : FnScope N_round_from ["anchors", "name"] (defScope (top 14)) := ⟨rfl, rfl, rfl, by decide +kernel, rfl, by decide +kernel, by decide +kernel⟩
theorem d_round_from {P : Program} {w : World} {K : PySem.W.Frag} {mg : Str → Option Value} {base : Heap}  : Body P w K mg base N_round_from "round_from" (defScope (top 14)) 0 [] [2] (defBody (top 14)) (upS (B_round_from)) := by
  have nd := sc_round_from.nd
  intro f cdv A outer s H E hr
  have ⟨_, po, _⟩ := cxq (P := P) (w := w) (K := K) (mg := mg) (base := base) N_round_from "round_from" (defScope (top 14)) f cdv A outer s H E
  exact loSs (vss_cons (loS (vs_setF (i := 2) (by decide) (by decide) nd rfl (by first | exact .inl rfl | exact .inr rfl) (loF (vf_lst (loA (va_cons stbE (lv 1) (loA va_nil le_nil)) le_cons)) le_lst)) ls_setF) (loSs (vss_cons (loS (vs_while po (loT (vt_cmp (od_ne (Room.u64 hr)) (VE.b (lo (ve_sub (Room.u hr) (VE.b (lv 0)) (VE.b (lo (ve_sub (Room.u hr) (lo (vb_var (i := 2) (by decide) rfl (by first | exact .inl rfl | exact .inr (.inl rfl) | exact .inr (.inr rfl))) (le_var _)) (VE.b (lo (ve_neg (VE.b (lo (ve_int) le_c))) le_neg)) (fun _ _ => rfl)) le_bin)) (fun _ _ => rfl)) le_bin)) (VE.b (lv 1)) (nomark _)) le_binT) ((show VSs _ _ _ _ _ _ (upS (b_round_from_1)) from vss_one (loS (vs_append (i := 2) (by decide) rfl (by first | exact .inl rfl | exact .inr (.inl rfl) | exact .inr (.inr rfl)) (lo (ve_sub (Room.u hr) (VE.b (lv 0)) (VE.b (lo (ve_sub (Room.u hr) (lo (vb_var (i := 2) (by decide) rfl (by first | exact .inl rfl | exact .inr (.inl rfl) | exact .inr (.inr rfl))) (le_var _)) (VE.b (lo (ve_neg (VE.b (lo (ve_int) le_c))) le_neg)) (fun _ _ => rfl)) le_bin)) (fun _ _ => rfl)) le_bin)) ls_app)))) ls_while) (vss_one (loS (vs_retO (i := 2) (by decide) rfl (by first | exact .inl rfl | exact .inr (.inl rfl) | exact .inr (.inr rfl))) ls_retV))) ls_seq)) ls_seq
abbrev k_check_rounds : Nat := 3
theorem sc_check_rounds : FnScope N_check_rounds ["anchors"] (defScope (top 15)) := ⟨rfl, rfl, rfl, by decide +kernel, rfl, by decide +kernel, by decide +kernel⟩
theorem d_check_rounds {P : Program} {w : World} {K : PySem.W.Frag} {mg : Str → Option Value} {base : Heap} (G_rising : GFn P w K mg base "rising" k_rising ["things"] (lift K 1 (FSp.of f_rising))) (G_round_from : GFn P w K mg base "round_from" k_round_from ["anchors", "name"] (lift K 2 (FSp.of f_round_from))) (G_way_up : GFn P w K mg base "way_up" k_way_up ["anchors", "name"] (lift K 2 (FSp.of f_way_up))) (X_Round : GEx P w K mg base "Round" 1 ["names"]) (f_list : mg "list" = none) : Body P w K mg base N_check_rounds "check_rounds" (defScope (top 15)) 2 [] [] (defBody (top 15)) (upS (B_check_rounds)) := by
  have nd := sc_check_rounds.nd
  intro f cdv A outer s H E hr
  have ⟨tk, po, _⟩ := cxq (P := P) (w := w) (K := K) (mg := mg) (base := base) N_check_rounds "check_rounds" (defScope (top 15)) f cdv A outer s H E
  exact vss_one (loS (vs_for po rfl (loIs (vi_seq (lo (ve_g tk rfl G_rising hr (by decide) rfl (loA (va_cons stbE (VF.ve (loF (vf_callTy (cf_list rfl) rfl f_list boot_list (loA (va_cons stbB (VE.b (lv 0)) (loA va_nil le_nil)) le_cons)) le_blt)) (loA va_nil le_nil)) le_cons)) le_call)) le_iter) (loG (vg_name (i := 1) (by decide) nd rfl (by first | exact .inl rfl | exact .inr rfl)) (lg_nm)) ((show VSs _ _ _ _ _ _ (upS (b_check_rounds_1)) from vss_one (loS (vs_if (loT (vt_cmp (od_in (Room.u65 hr)) (VE.b (lv 1)) (VE.b (lo (ve_g tk rfl G_way_up hr (by decide) rfl (loA (va_cons stbE (lv 0) (loA (va_cons stbE (lv 1) (loA va_nil le_nil)) le_cons)) le_cons)) le_call)) rfl) le_binT) (vss_one (loS (vs_raise rfl tk X_Round hr (by decide) rfl (loA (va_cons stbE (lo (ve_g tk rfl G_round_from hr (by decide) rfl (loA (va_cons stbE (lv 0) (loA (va_cons stbE (lv 1) (loA va_nil le_nil)) le_cons)) le_cons)) le_call) (loA va_nil le_nil)) le_cons)) ls_raise)) (loSs vss_nil ls_nil)) ls_if)))) ls_for)
abbrev k_Hanging___init__ : Nat := 4
theorem sc_Hanging___init__ : FnScope N_Hanging___init__ ["self", "rows"] (defScope (mth 16 0)) := ⟨rfl, rfl, rfl, by decide +kernel, rfl, by decide +kernel, by decide +kernel⟩
theorem d_Hanging___init__ {P : Program} {w : World} {K : PySem.W.Frag} {mg : Str → Option Value} {base : Heap} (G_check_rounds : GFn P w K mg base "check_rounds" k_check_rounds ["anchors"] (lift K 1 (FSp.of f_check_rounds))) (G_is_anchor : GFn P w K mg base "is_anchor" k_is_anchor ["thing", "names"] (lift K 2 (FSp.of f_is_anchor))) (G_is_name : GFn P w K mg base "is_name" k_is_name ["thing"] (lift K 1 (FSp.of f_is_name))) (G_rising : GFn P w K mg base "rising" k_rising ["things"] (lift K 1 (FSp.of f_rising))) (X_BadRow : GEx P w K mg base "BadRow" 1 ["name"]) (cl_Hanging : Cls K (He.ga K "Hanging")) (f_list : mg "list" = none) (na_Hanging_anchors : NoAttr K (He.ga K "Hanging") "anchors") : Body P w K mg base N_Hanging___init__ "Hanging.__init__" (defScope (mth 16 0)) 3 [0] [0] (defBody (mth 16 0)) (upS (B_Hanging___init__)) := by
  have nd := sc_Hanging___init__.nd
  intro f cdv A outer s H E hr
  have ⟨tk, po, uc⟩ := cxq (P := P) (w := w) (K := K) (mg := mg) (base := base) N_Hanging___init__ "Hanging.__init__" (defScope (mth 16 0)) f cdv A outer s H E
  exact loSs (vss_cons (loS (vs_forD uc po rfl (vd_items (vp_var (i := 1) (by decide) rfl (by first | exact .inl rfl | exact .inr (.inl rfl) | exact .inr (.inr rfl)))) (loG (vg_tup rfl (vgs_cons (vg_name (i := 2) (by decide) nd rfl (by first | exact .inl rfl | exact .inr rfl)) (vgs_cons (vg_name (i := 3) (by decide) nd rfl (by first | exact .inl rfl | exact .inr rfl)) (vgs_nil))) (fun _ _ _ h => ((gsok_cons gok_nm (gsok_cons gok_nm (gsok_nil))) _ _ _ h).1)) (lg_tp (lgs_cons (lg_nm) (lgs_cons (lg_nm) (lgs_nil))))) ((show VSs _ _ _ _ _ _ (upS (b_Hanging___init___1)) from vss_one (loS (vs_if (VW.t (loW (vw_or (loT (vt_not (loT (vt_val (lo (ve_g tk rfl G_is_name hr (by decide) rfl (loA (va_cons stbE (lv 2) (loA va_nil le_nil)) le_cons)) le_call)) le_val)) le_notT) (vw_or1 (loT (vt_not (loT (vt_val (lo (ve_g tk rfl G_is_anchor hr (by decide) rfl (loA (va_cons stbE (lv 3) (loA (va_cons stbE (lv 1) (loA va_nil le_nil)) le_cons)) le_cons)) le_call)) le_val)) le_notT))) le_orT)) (vss_one (loS (vs_raise rfl tk X_BadRow hr (by decide) rfl (loA (va_cons stbE (lv 2) (loA va_nil le_nil)) le_cons)) ls_raise)) (loSs vss_nil ls_nil)) ls_if)))) ls_forD) (loSs (vss_cons (loS (vs_expr (lo (ve_g tk rfl G_check_rounds hr (by decide) rfl (loA (va_cons stbE (lv 1) (loA va_nil le_nil)) le_cons)) le_call)) ls_drop) (vss_one (loS (vs_fld (i := 0) (by decide) rfl (by first | exact .inl rfl | exact .inr (.inl rfl) | exact .inr (.inr rfl)) cl_Hanging na_Hanging_anchors (VF.ve (loF (xf_dc rfl rfl nd (VIs.vi (loIs (vi_seq (lo (ve_g tk rfl G_rising hr (by decide) rfl (loA (va_cons stbE (VF.ve (loF (vf_callTy (cf_list rfl) rfl f_list boot_list (loA (va_cons stbB (VE.b (lv 1)) (loA va_nil le_nil)) le_cons)) le_blt)) (loA va_nil le_nil)) le_cons)) le_call)) le_iter)) (blkOk_by (own := [("name", 2)]) (N := N_Hanging___init__) (sc := defScope (mth 16 0)) (by decide +kernel)) (by decide) (by decide) (fun c => loG (vg_name (i := 2) (by decide) nd rfl (by first | exact .inl rfl | exact .inr rfl)) (lg_nm)) (fun c => loTs vts_nil le_yes) (fun c => lo (ve_var (i := 2) (by decide) rfl (by first | exact .inl rfl | exact .inr (.inl rfl) | exact .inr (.inr rfl))) (le_var _)) (fun c => lo (ve_sub (Room.u hr) (VE.b (lv 1)) (VE.b (lv 2)) (fun _ _ => rfl)) le_bin)) le_dc))) ls_fld))) ls_seq)) ls_seq
abbrev k_hangings : Nat := 6
theorem gsc_hangings : GScope N_hangings ["names", "looks"] (defScope (top 17)) := ⟨rfl, rfl, rfl, by decide +kernel, rfl, by decide +kernel, by decide +kernel⟩
def g_hangings : GF.GM :=
  (GF.gSeq (GF.gPl (upS (fSetF 2 (fLc (fIter (fVar 0)) [5] (fgNm 5) (fBinT dIn (fVar 5) (fVar 1)) (fVar 5))))) (GF.gSeq (GF.gPl (upS (fSetF 3 (fLst (fCons (fC (.dic [])) fNil))))) (GF.gSeq (GF.gWhile (up (fBinT dGt (fBlt dLen (fCons (fVar 3) fNil)) (fC (.int 0)))) (GF.gSeq (GF.gPl (upS (fSetPop 4 3))) (GF.gSeq (GF.gIf (up (fBinT dEq (fBlt dLen (fCons (fVar 4) fNil)) (fBlt dLen (fCons (fVar 0) fNil)))) (GF.gSeq (GF.gYield (up (fMake 2 f_Hanging___init__ [] (fCons (fVar 4) fNil)))) GF.gNil) (GF.gSeq (GF.gPl (upS (fSet 5 (fBin dIdx (fVar 0) (fBlt dLen (fCons (fVar 4) fNil)))))) (GF.gSeq (GF.gPl (upS (fFor (fIter (fBin dAdd (fLst (fCons (fC (.str "clock")) fNil)) (fVar 2))) (fgNm 6) (b_hangings_1)))) GF.gNil))) GF.gNil))) GF.gNil)))
theorem y_hangings : GF.Yle B_hangings g_hangings := GF.yle_seq (GF.yle_pl) (GF.yle_seq (GF.yle_pl) (GF.yle_seq (GF.yle_while (GF.yle_seq (GF.yle_pl) (GF.yle_seq (GF.yle_if (GF.yle_seq (GF.yle_yield) (GF.yle_nil)) (GF.yle_seq (GF.yle_pl) (GF.yle_seq (GF.yle_pl) (GF.yle_nil)))) (GF.yle_nil)))) (GF.yle_nil)))
theorem d_hangings {P : Program} {w : World} {K : PySem.W.Frag} {mg : Str → Option Value} {base : Heap} (G_way_up : GFn P w K mg base "way_up" k_way_up ["anchors", "name"] (lift K 2 (FSp.of f_way_up))) (K_Hanging_1 : GMk P w K mg base "Hanging" "Hanging" k_Hanging___init__ ["self", "rows"] [] (FSp.of f_Hanging___init__)) (c_CLOCK : ∃ t, mg "CLOCK" = some (.str "clock" t)) (f_len : mg "len" = none) : GF.GBody P w K mg base N_hangings "hangings" (defScope (top 17)) k_hangings [3, 2] (defBody (top 17)) g_hangings := by
  have nd := gsc_hangings.nd
  intro f cdv outer L aS a g go ok
  have tkg : ∀ B s0 H0, TK (GF.gx (GF.genT P w K mg base N_hangings "hangings" (defScope (top 17)) 6 f cdv outer L aS a g go).toGG B s0 H0) EF := fun _ _ _ => GF.tkG
  have pog : ∀ B s0 H0, PassesOwn (model (GF.gx (GF.genT P w K mg base N_hangings "hangings" (defScope (top 17)) 6 f cdv outer L aS a g go).toGG B s0 H0).prog (GF.gx (GF.genT P w K mg base N_hangings "hangings" (defScope (top 17)) 6 f cdv outer L aS a g go).toGG B s0 H0).w) (GF.gx (GF.genT P w K mg base N_hangings "hangings" (defScope (top 17)) 6 f cdv outer L aS a g go).toGG B s0 H0).A (GF.gx (GF.genT P w K mg base N_hangings "hangings" (defScope (top 17)) 6 f cdv outer L aS a g go).toGG B s0 H0).env (GF.gx (GF.genT P w K mg base N_hangings "hangings" (defScope (top 17)) 6 f cdv outer L aS a g go).toGG B s0 H0).xe := fun _ _ _ => GF.poG
  have ucg : ∀ B s0 H0, UC (GF.gx (GF.genT P w K mg base N_hangings "hangings" (defScope (top 17)) 6 f cdv outer L aS a g go).toGG B s0 H0) EF := fun _ _ _ => GF.ucG
  have rmg : ∀ B s0 H0, Room 6 B → Room 5 (GF.gx (GF.genT P w K mg base N_hangings "hangings" (defScope (top 17)) 6 f cdv outer L aS a g go).toGG B s0 H0).A := fun _ _ _ h => GF.rmG h
  exact GF.gvs_cons (GF.gv_plain (fun B s0 H0 hr0 => have hr := rmg B s0 H0 hr0; have tk := tkg B s0 H0; have po := pog B s0 H0; have uc := ucg B s0 H0; loS (xs_setLc rfl (i := 2) (by decide) (by decide) rfl rfl (sw_true rfl rfl rfl (by decide +kernel)) rfl nd (VIs.vi (loIs (vi_seq (lv 0)) le_iter)) (blkOk_by (own := [("name", 5)]) (N := N_hangings) (sc := defScope (top 17)) (by decide +kernel)) (by decide) (by decide) (fun c => loG (vg_name (i := 5) (by decide) nd rfl (by first | exact .inl rfl | exact .inr rfl)) (lg_nm)) (fun c => vts_one (loT (vt_cmp (od_in (Room.u65 hr)) (VE.b (lv 5)) (VE.b (lv 1)) rfl) le_binT)) (fun c => lo (ve_var (i := 5) (by decide) rfl (by first | exact .inl rfl | exact .inr (.inl rfl) | exact .inr (.inr rfl))) (le_var _))) (ls_setM le_lc))) (GF.gvs_cons (GF.gv_plain (fun B s0 H0 hr0 => have hr := rmg B s0 H0 hr0; have tk := tkg B s0 H0; have po := pog B s0 H0; have uc := ucg B s0 H0; loS (vs_setF (i := 3) (by decide) (by decide) nd rfl (by first | exact .inl rfl | exact .inr rfl) (loF (vf_lst (loA (va_cons stbE (VF.ve (loF vf_dic0 le_c)) (loA va_nil le_nil)) le_cons)) le_lst)) ls_setF)) (GF.gvs_cons (GF.gv_while (fun B s0 H0 hr0 => have hr := rmg B s0 H0 hr0; have tk := tkg B s0 H0; have po := pog B s0 H0; have uc := ucg B s0 H0; loT (vt_cmp od_gt (VE.b (lo (ve_callB cd_len rfl f_len boot_len (loA (va_cons stbB (lo (vb_var (i := 3) (by decide) rfl (by first | exact .inl rfl | exact .inr (.inl rfl) | exact .inr (.inr rfl))) (le_var _)) (loA va_nil le_nil)) le_cons)) le_blt)) (VE.b (lo (ve_int) le_c)) (nomark _)) le_binT) (GF.gvs_cons (GF.gv_plain (fun B s0 H0 hr0 => have hr := rmg B s0 H0 hr0; have tk := tkg B s0 H0; have po := pog B s0 H0; have uc := ucg B s0 H0; loS (vs_setPop (i := 3) (j := 4) (by decide) (by decide) (by decide) nd rfl (by first | exact .inl rfl | exact .inr (.inl rfl) | exact .inr (.inr rfl)) rfl (by first | exact .inl rfl | exact .inr rfl)) ls_setPop)) (GF.gvs_cons (GF.gv_if (fun B s0 H0 hr0 => have hr := rmg B s0 H0 hr0; have tk := tkg B s0 H0; have po := pog B s0 H0; have uc := ucg B s0 H0; loT (vt_cmp (od_eq (Room.u64 hr)) (VE.b (lo (ve_callB cd_len rfl f_len boot_len (loA (va_cons stbB (VE.b (lv 4)) (loA va_nil le_nil)) le_cons)) le_blt)) (VE.b (lo (ve_callB cd_len rfl f_len boot_len (loA (va_cons stbB (VE.b (lv 0)) (loA va_nil le_nil)) le_cons)) le_blt)) (nomark _)) le_binT) (GF.gvs_cons (GF.gv_yield ok (fun B s0 H0 hr0 => have hr := rmg B s0 H0 hr0; have tk := tkg B s0 H0; have po := pog B s0 H0; have uc := ucg B s0 H0; VF.ve (loF (vf_mk tk rfl K_Hanging_1 hr (by decide) rfl (loA (va_cons stbE (lv 4) (loA va_nil le_nil)) le_cons)) le_make))) (GF.gvs_nil)) (GF.gvs_cons (GF.gv_plain (fun B s0 H0 hr0 => have hr := rmg B s0 H0 hr0; have tk := tkg B s0 H0; have po := pog B s0 H0; have uc := ucg B s0 H0; loS (vs_set (i := 5) (by decide) nd rfl (by first | exact .inl rfl | exact .inr rfl) (lo (ve_sub (Room.u hr) (VE.b (lv 0)) (VE.b (lo (ve_callB cd_len rfl f_len boot_len (loA (va_cons stbB (VE.b (lv 4)) (loA va_nil le_nil)) le_cons)) le_blt)) (fun _ _ => rfl)) le_bin)) ls_set)) (GF.gvs_cons (GF.gv_plain (fun B s0 H0 hr0 => have hr := rmg B s0 H0 hr0; have tk := tkg B s0 H0; have po := pog B s0 H0; have uc := ucg B s0 H0; loS (vs_for po rfl (loIs (vi_seq (lo (ve_bin od_add (VE.b (VF.ve (loF (vf_lst (loA (va_cons stbE (lo (ve_gstr rfl c_CLOCK) le_c) (loA va_nil le_nil)) le_cons)) le_lst))) (lo (vb_var (i := 2) (by decide) rfl (by first | exact .inl rfl | exact .inr (.inl rfl) | exact .inr (.inr rfl))) (le_var _))) le_bin)) le_iter) (loG (vg_name (i := 6) (by decide) nd rfl (by first | exact .inl rfl | exact .inr rfl)) (lg_nm)) ((show VSs _ _ _ _ _ _ (upS (b_hangings_1)) from loSs (vss_cons (loS (vs_set (i := 7) (by decide) nd rfl (by first | exact .inl rfl | exact .inr rfl) (VF.ve (loF (vf_dsp1 (lv 4) (lv 5) (lv 6)) le_dsp1))) ls_set) (vss_one (loS (vs_if (loT (vt_cmp (od_notIn (Room.u65 hr)) (VE.b (lv 5)) (VE.b (lo (ve_g tk rfl G_way_up hr (by decide) rfl (loA (va_cons stbE (lv 7) (loA (va_cons stbE (lv 5) (loA va_nil le_nil)) le_cons)) le_cons)) le_call)) rfl) le_binT) (vss_one (loS (vs_append (i := 3) (by decide) rfl (by first | exact .inl rfl | exact .inr (.inl rfl) | exact .inr (.inr rfl)) (lv 7)) ls_app)) (loSs vss_nil ls_nil)) ls_if))) ls_seq))) ls_for)) (GF.gvs_nil)))) (GF.gvs_nil)))) (GF.gvs_nil)))
abbrev k_Hanging_rows : Nat := 1
theorem sc_Hanging_rows : FnScope N_Hanging_rows ["self"] (defScope (mth 16 1)) := ⟨rfl, rfl, rfl, by decide +kernel, rfl, by decide +kernel, by decide +kernel⟩
theorem d_Hanging_rows {P : Program} {w : World} {K : PySem.W.Frag} {mg : Str → Option Value} {base : Heap} (cl_Hanging : Cls K (He.ga K "Hanging")) (f_dict : mg "dict" = none) (na_Hanging_anchors : NoAttr K (He.ga K "Hanging") "anchors") : Body P w K mg base N_Hanging_rows "Hanging.rows" (defScope (mth 16 1)) 0 [] [] (defBody (mth 16 1)) (upS (B_Hanging_rows)) := by
  have nd := sc_Hanging_rows.nd
  intro f cdv A outer s H E hr
  exact vss_one (loS (vs_ret (VF.ve (loF (vf_callTy (cf_dict rfl) rfl f_dict boot_dict (loA (va_cons stbB (VE.b (lo (ve_fld cl_Hanging na_Hanging_anchors (VE.b (lv 0))) le_fld)) (loA va_nil le_nil)) le_cons)) le_blt))) ls_ret)
abbrev k__law_found : Nat := 8
theorem sc__law_found : FnScope N__law_found ["_law_names_here", "_law_looks"] (defScope (top 29)) := ⟨rfl, rfl, rfl, by decide +kernel, rfl, by decide +kernel, by decide +kernel⟩
theorem d__law_found {P : Program} {w : World} {K : PySem.W.Frag} {mg : Str → Option Value} {base : Heap} (G_Hanging_rows : GMe P w K mg base "Hanging" "rows" k_Hanging_rows ["self"] [] (lift K 1 (FSp.of f_Hanging_rows))) (G_hangings : GF.GGn P w K mg base "hangings" k_hangings ["names", "looks"] (GF.relY f_hangings)) (hT : TabC.T = []) : Body P w K mg base N__law_found "_law_found" (defScope (top 29)) 7 [] [] (defBody (top 29)) (upS (B__law_found)) := by
  have nd := sc__law_found.nd
  intro f cdv A outer s H E hr
  exact vss_one (loS (vs_ret (VF.ve (loF (GF.xf_lcG rfl hT rfl nd rfl G_hangings hr (by decide) rfl (loA (va_cons stbE (lv 0) (loA (va_cons stbE (lv 1) (loA va_nil le_nil)) le_cons)) le_cons) (blkOk_by (own := [("_law_hanging", 2)]) (N := N__law_found) (sc := defScope (top 29)) (by decide +kernel)) (by decide +kernel) (by decide) (by decide) (fun c => loG (vg_name (i := 2) (by decide) nd rfl (by first | exact .inl rfl | exact .inr rfl)) (lg_nm)) (fun c => loTs vts_nil le_yes) (fun c => lo (ve_me0 tk_f rfl G_Hanging_rows hr (by decide) (lv 2)) le_meth0)) GF.le_lcG))) ls_ret)
abbrev k__law_rising : Nat := 1
theorem sc__law_rising : FnScope N__law_rising ["_law_things"] (defScope (top 25)) := ⟨rfl, rfl, rfl, by decide +kernel, rfl, by decide +kernel, by decide +kernel⟩
theorem d__law_rising {P : Program} {w : World} {K : PySem.W.Frag} {mg : Str → Option Value} {base : Heap} (f_len : mg "len" = none) : Body P w K mg base N__law_rising "_law_rising" (defScope (top 25)) 0 [] [1] (defBody (top 25)) (upS (B__law_rising)) := by
  have nd := sc__law_rising.nd
  intro f cdv A outer s H E hr
  have ⟨_, po, _⟩ := cxq (P := P) (w := w) (K := K) (mg := mg) (base := base) N__law_rising "_law_rising" (defScope (top 25)) f cdv A outer s H E
  exact loSs (vss_cons (loS (vs_setF (i := 1) (by decide) (by decide) nd rfl (by first | exact .inl rfl | exact .inr rfl) (loF (vf_lst (loA va_nil le_nil)) le_lst)) ls_setF) (loSs (vss_cons (loS (vs_for po rfl (loIs (vi_seq (lv 0)) le_iter) (loG (vg_name (i := 2) (by decide) nd rfl (by first | exact .inl rfl | exact .inr rfl)) (lg_nm)) ((show VSs _ _ _ _ _ _ (upS (b__law_rising_1)) from vss_one (loS (vs_insert (i := 1) (by decide) rfl (by first | exact .inl rfl | exact .inr (.inl rfl) | exact .inr (.inr rfl)) (loA (va_cons stbE (lo (ve_callB cd_len rfl f_len boot_len (loA (va_cons stbB (VE.b (VF.ve (loF (xf_lc rfl rfl nd (loI (vi_ownS (i := 1) rfl (by decide) rfl (by first | exact .inl rfl | exact .inr (.inl rfl) | exact .inr (.inr rfl))) le_own) (blkOk_by (own := [("_law_x", 3)]) (N := N__law_rising) (sc := defScope (top 25)) (by decide +kernel)) (by decide) (by decide) (fun c => loG (vg_name (i := 3) (by decide) nd rfl (by first | exact .inl rfl | exact .inr rfl)) (lg_nm)) (fun c => vts_one (loT (vt_cmp (od_le (Room.u64 hr)) (VE.b (lv 3)) (VE.b (lv 2)) (nomark _)) le_binT)) (fun c => lo (ve_var (i := 3) (by decide) rfl (by first | exact .inl rfl | exact .inr (.inl rfl) | exact .inr (.inr rfl))) (le_var _))) le_lc))) (loA va_nil le_nil)) le_cons)) le_blt) (loA (va_cons stbE (lv 2) (loA va_nil le_nil)) le_cons)) le_cons)) ls_ins)))) ls_for) (vss_one (loS (vs_retO (i := 1) (by decide) rfl (by first | exact .inl rfl | exact .inr (.inl rfl) | exact .inr (.inr rfl))) ls_retV))) ls_seq)) ls_seq
abbrev k__law_with : Nat := 1
theorem sc__law_with : FnScope N__law_with ["_law_things", "_law_name", "_law_thing"] (defScope (top 26)) := ⟨rfl, rfl, rfl, by decide +kernel, rfl, by decide +kernel, by decide +kernel⟩
theorem d__law_with {P : Program} {w : World} {K : PySem.W.Frag} {mg : Str → Option Value} {base : Heap} (f_dict : mg "dict" = none) : Body P w K mg base N__law_with "_law_with" (defScope (top 26)) 0 [] [3] (defBody (top 26)) (upS (B__law_with)) := by
  have nd := sc__law_with.nd
  intro f cdv A outer s H E hr
  exact loSs (vss_cons (loS (vs_setF (i := 3) (by decide) (by decide) nd rfl (by first | exact .inl rfl | exact .inr rfl) (loF (vf_callTy (cf_dict rfl) rfl f_dict boot_dict (loA (va_cons stbB (VE.b (lv 0)) (loA va_nil le_nil)) le_cons)) le_blt)) ls_setF) (loSs (vss_cons (loS (vs_dput (i := 3) (Room.u hr) (by decide) rfl (by first | exact .inl rfl | exact .inr (.inl rfl) | exact .inr (.inr rfl)) (lv 1) (lv 2)) ls_dput) (vss_one (loS (vs_retO (i := 3) (by decide) rfl (by first | exact .inl rfl | exact .inr (.inl rfl) | exact .inr (.inr rfl))) ls_retV))) ls_seq)) ls_seq
abbrev k__law_is_tree : Nat := 1
theorem sc__law_is_tree : FnScope N__law_is_tree ["_law_anchors"] (defScope (top 28)) := ⟨rfl, rfl, rfl, by decide +kernel, rfl, by decide +kernel, by decide +kernel⟩
theorem d__law_is_tree {P : Program} {w : World} {K : PySem.W.Frag} {mg : Str → Option Value} {base : Heap}  : Body P w K mg base N__law_is_tree "_law_is_tree" (defScope (top 28)) 0 [] [] (defBody (top 28)) (upS (B__law_is_tree)) := by
  have nd := sc__law_is_tree.nd
  intro f cdv A outer s H E hr
  have ⟨_, po, uc⟩ := cxq (P := P) (w := w) (K := K) (mg := mg) (base := base) N__law_is_tree "_law_is_tree" (defScope (top 28)) f cdv A outer s H E
  exact loSs (vss_cons (loS (vs_forD uc po rfl (vd_keys (vp_var (i := 0) (by decide) rfl (by first | exact .inl rfl | exact .inr (.inl rfl) | exact .inr (.inr rfl)))) (loG (vg_name (i := 1) (by decide) nd rfl (by first | exact .inl rfl | exact .inr rfl)) (lg_nm)) ((show VSs _ _ _ _ _ _ (upS (b__law_is_tree_2)) from loSs (vss_cons (loS (vs_set (i := 2) (by decide) nd rfl (by first | exact .inl rfl | exact .inr rfl) (lv 1)) ls_set) (loSs (vss_cons (loS (vs_forD uc po rfl (vd_keys (vp_var (i := 0) (by decide) rfl (by first | exact .inl rfl | exact .inr (.inl rfl) | exact .inr (.inr rfl)))) (loG (vg_name (i := 3) (by decide) nd rfl (by first | exact .inl rfl | exact .inr rfl)) (lg_nm)) ((show VSs _ _ _ _ _ _ (upS (b__law_is_tree_1)) from vss_one (loS (vs_set (i := 2) (by decide) nd rfl (by first | exact .inl rfl | exact .inr rfl) (lo (ve_ifExp (loT (vt_cmp (od_ne (Room.u64 hr)) (VE.b (lv 2)) (VE.b (lo (ve_str) le_c)) (nomark _)) le_binT) (lo (ve_sub (Room.u hr) (VE.b (lv 0)) (VE.b (lv 2)) (fun _ _ => rfl)) le_bin) (lv 2)) le_if)) ls_set)))) ls_forD) (vss_one (loS (vs_if (loT (vt_cmp (od_ne (Room.u64 hr)) (VE.b (lv 2)) (VE.b (lo (ve_str) le_c)) (nomark _)) le_binT) (vss_one (loS (vs_ret (lo (ve_bl) le_c)) ls_ret)) (loSs vss_nil ls_nil)) ls_if))) ls_seq)) ls_seq))) ls_forD) (vss_one (loS (vs_ret (lo (ve_bl) le_c)) ls_ret))) ls_seq
abbrev k__law_trees : Nat := 2
theorem sc__law_trees : FnScope N__law_trees ["_law_names_here", "_law_looks"] (defScope (top 27)) := ⟨rfl, rfl, rfl, by decide +kernel, rfl, by decide +kernel, by decide +kernel⟩
theorem d__law_trees {P : Program} {w : World} {K : PySem.W.Frag} {mg : Str → Option Value} {base : Heap} (G__law_is_tree : GFn P w K mg base "_law_is_tree" k__law_is_tree ["_law_anchors"] (lift K 1 (FSp.of f__law_is_tree))) (G__law_with : GFn P w K mg base "_law_with" k__law_with ["_law_things", "_law_name", "_law_thing"] (lift K 3 (FSp.of f__law_with))) (f_list : mg "list" = none) : Body P w K mg base N__law_trees "_law_trees" (defScope (top 27)) 1 [] [] (defBody (top 27)) (upS (B__law_trees)) := by
  have nd := sc__law_trees.nd
  intro f cdv A outer s H E hr
  have ⟨tk, po, _⟩ := cxq (P := P) (w := w) (K := K) (mg := mg) (base := base) N__law_trees "_law_trees" (defScope (top 27)) f cdv A outer s H E
  exact loSs (vss_cons (loS (vs_set (i := 2) (by decide) nd rfl (by first | exact .inl rfl | exact .inr rfl) (VF.ve (loF (vf_lst (loA (va_cons stbE (VF.ve (loF vf_dic0 le_c)) (loA va_nil le_nil)) le_cons)) le_lst))) ls_set) (loSs (vss_cons (loS (vs_for po rfl (loIs (vi_seq (lv 0)) le_iter) (loG (vg_name (i := 3) (by decide) nd rfl (by first | exact .inl rfl | exact .inr rfl)) (lg_nm)) ((show VSs _ _ _ _ _ _ (upS (b__law_trees_3)) from VSs.weak (O' := [4]) (loSs (vss_cons (loS (vs_setF (i := 4) (by decide) (by decide) nd rfl (by first | exact .inl rfl | exact .inr rfl) (loF (vf_lst (loA va_nil le_nil)) le_lst)) ls_setF) (loSs (vss_cons (loS (vs_for po rfl (loIs (vi_seq (lv 2)) le_iter) (loG (vg_name (i := 5) (by decide) nd rfl (by first | exact .inl rfl | exact .inr rfl)) (lg_nm)) ((show VSs _ _ _ _ _ _ (upS (b__law_trees_2)) from vss_one (loS (vs_for po rfl (loIs (vi_seq (lo (ve_bin od_add (VE.b (VF.ve (loF (vf_lst (loA (va_cons stbE (lo (ve_str) le_c) (loA va_nil le_nil)) le_cons)) le_lst))) (VE.b (VF.ve (loF (xf_lc rfl rfl nd (VIs.vi (loIs (vi_seq (lv 1)) le_iter)) (blkOk_by (own := [("_law_look", 7)]) (N := N__law_trees) (sc := defScope (top 27)) (by decide +kernel)) (by decide) (by decide) (fun c => loG (vg_name (i := 7) (by decide) nd rfl (by first | exact .inl rfl | exact .inr rfl)) (lg_nm)) (fun c => vts_one (loT (vt_cmp (od_in (Room.u65 hr)) (VE.b (lv 7)) (VE.b (lv 0)) rfl) le_binT)) (fun c => lo (ve_var (i := 7) (by decide) rfl (by first | exact .inl rfl | exact .inr (.inl rfl) | exact .inr (.inr rfl))) (le_var _))) le_lc)))) le_bin)) le_iter) (loG (vg_name (i := 6) (by decide) nd rfl (by first | exact .inl rfl | exact .inr rfl)) (lg_nm)) ((show VSs _ _ _ _ _ _ (upS (b__law_trees_1)) from vss_one (loS (vs_append (i := 4) (by decide) rfl (by first | exact .inl rfl | exact .inr (.inl rfl) | exact .inr (.inr rfl)) (lo (ve_g tk rfl G__law_with hr (by decide) rfl (loA (va_cons stbE (lv 5) (loA (va_cons stbE (lv 3) (loA (va_cons stbE (lv 6) (loA va_nil le_nil)) le_cons)) le_cons)) le_cons)) le_call)) ls_app)))) ls_for)))) ls_for) (vss_one (loS (vs_set (i := 2) (by decide) nd rfl (by first | exact .inl rfl | exact .inr rfl) (VF.ve (loF (vf_callTy (cf_list rfl) rfl f_list boot_list (loA (va_cons stbB (lo (vb_var (i := 4) (by decide) rfl (by first | exact .inl rfl | exact .inr (.inl rfl) | exact .inr (.inr rfl))) (le_var _)) (loA va_nil le_nil)) le_cons)) le_blt))) ls_set))) ls_seq)) ls_seq) (by decide)))) ls_for) (vss_one (loS (vs_ret (VF.ve (loF (xf_lc rfl rfl nd (VIs.vi (loIs (vi_seq (lv 2)) le_iter)) (blkOk_by (own := [("_law_anchors", 5)]) (N := N__law_trees) (sc := defScope (top 27)) (by decide +kernel)) (by decide) (by decide) (fun c => loG (vg_name (i := 5) (by decide) nd rfl (by first | exact .inl rfl | exact .inr rfl)) (lg_nm)) (fun c => vts_one (loT (vt_val (lo (ve_g tk_f rfl G__law_is_tree hr (by decide) rfl (loA (va_cons stbE (lv 5) (loA va_nil le_nil)) le_cons)) le_call)) le_val)) (fun c => lo (ve_var (i := 5) (by decide) rfl (by first | exact .inl rfl | exact .inr (.inl rfl) | exact .inr (.inr rfl))) (le_var _))) le_lc))) ls_ret))) ls_seq)) ls_seq
abbrev k_law : Nat := 9
theorem sc_law : FnScope N_law ["_law_script"] (defScope (top 30)) := ⟨rfl, rfl, rfl, by decide +kernel, rfl, by decide +kernel, by decide +kernel⟩
theorem d_law {P : Program} {w : World} {K : PySem.W.Frag} {mg : Str → Option Value} {base : Heap} (G__law_found : GFn P w K mg base "_law_found" k__law_found ["_law_names_here", "_law_looks"] (lift K 2 (FSp.of f__law_found))) (G__law_mix : GFn P w K mg base "_law_mix" k__law_mix ["_law_state", "_law_things"] (lift K 2 sp__law_mix)) (G__law_names : GFn P w K mg base "_law_names" k__law_names ["_law_state", "_law_many"] (lift K 2 sp__law_names)) (G__law_one : GFn P w K mg base "_law_one" k__law_one ["_law_state", "_law_things"] (lift K 2 sp__law_one)) (G__law_rising : GFn P w K mg base "_law_rising" k__law_rising ["_law_things"] (lift K 1 (FSp.of f__law_rising))) (G__law_some : GFn P w K mg base "_law_some" k__law_some ["_law_state", "_law_things"] (lift K 2 sp__law_some)) (G__law_take : GFn P w K mg base "_law_take" k__law_take ["_law_state", "_law_many"] (lift K 2 sp__law_take)) (G__law_trees : GFn P w K mg base "_law_trees" k__law_trees ["_law_names_here", "_law_looks"] (lift K 2 (FSp.of f__law_trees))) (G_hangings : GF.GGn P w K mg base "hangings" k_hangings ["names", "looks"] (GF.relY f_hangings)) (cl_Hanging : Cls K (He.ga K "Hanging")) (f_all : mg "all" = none) (f_dict : mg "dict" = none) (f_enumerate : mg "enumerate" = none) (f_isinstance : mg "isinstance" = none) (f_len : mg "len" = none) (f_range : mg "range" = none) (f_tuple : mg "tuple" = none) (gl_Hanging : mg "Hanging" = some (.ref (He.ga K "Hanging"))) (hT : TabC.T = []) (ins_Hanging : C8.InsC K (He.ga K "Hanging")) : Body P w K mg base N_law "law" (defScope (top 30)) 8 [] [] (defBody (top 30)).tail (B_law) := by
  have nd := sc_law.nd
  intro f cdv A outer s H E hr
  have ⟨tk, po, _⟩ := cxq (P := P) (w := w) (K := K) (mg := mg) (base := base) N_law "law" (defScope (top 30)) f cdv A outer s H E
  exact vss_cons (vs_for po rfl (loIs (vi_range1 rfl f_range (VE.b (lo (ve_int) le_c))) le_range1) (loG (vg_name (i := 2) (by decide) nd rfl (by first | exact .inl rfl | exact .inr rfl)) (lg_nm)) (vss_cons (vs_set (i := 3) (by decide) nd rfl (by first | exact .inl rfl | exact .inr rfl) (ve_g tk rfl G__law_names hr (by decide) rfl (va_cons stbE (lv 1) (va_cons stbE (ve_g tk rfl G__law_take hr (by decide) rfl (loA (va_cons stbE (lv 1) (loA (va_cons stbE (lo (ve_int) le_c) (loA va_nil le_nil)) le_cons)) le_cons)) (loA va_nil le_nil))))) (vss_cons (vs_set (i := 4) (by decide) nd rfl (by first | exact .inl rfl | exact .inr rfl) (ve_g tk rfl G__law_one hr (by decide) rfl (va_cons stbE (lv 1) (va_cons stbE (VF.ve (vf_lst (va_cons stbE (VF.ve (loF (vf_lst (loA va_nil le_nil)) le_lst)) (va_cons stbE (lv 3) (va_cons stbE (ve_g tk rfl G__law_some hr (by decide) rfl (loA (va_cons stbE (lv 1) (loA (va_cons stbE (lv 3) (loA va_nil le_nil)) le_cons)) le_cons)) (va_cons stbE (ve_g tk rfl G__law_mix hr (by decide) rfl (loA (va_cons stbE (lv 1) (loA (va_cons stbE (lo (ve_bin od_add (VE.b (lo (ve_bin od_add (VE.b (lv 3)) (VE.b (lo (ve_slice (VE.b (lv 3)) (loO vo_none le_none) (loO (vo_some (VE.b (lo (ve_int) le_c))) le_some)) le_sl))) le_bin)) (VE.b (VF.ve (loF (vf_lst (loA (va_cons stbE (lo (ve_str) le_c) (loA va_nil le_nil)) le_cons)) le_lst)))) le_bin) (loA va_nil le_nil)) le_cons)) le_cons)) (loA va_nil le_nil))))))) (loA va_nil le_nil))))) (vss_cons (vs_set (i := 5) (by decide) nd rfl (by first | exact .inl rfl | exact .inr rfl) (ve_g tk rfl G__law_found hr (by decide) rfl (va_cons stbE (ve_g tk rfl G__law_one hr (by decide) rfl (loA (va_cons stbE (lv 1) (loA (va_cons stbE (VF.ve (loF (vf_lst (loA (va_cons stbE (lv 3) (loA (va_cons stbE (lo (ve_callTy cd_tuple rfl f_tuple boot_tuple (loA (va_cons stbB (VE.b (lv 3)) (loA va_nil le_nil)) le_cons)) le_blt) (loA va_nil le_nil)) le_cons)) le_cons)) le_lst)) (loA va_nil le_nil)) le_cons)) le_cons)) (va_cons stbE (ve_g tk rfl G__law_one hr (by decide) rfl (loA (va_cons stbE (lv 1) (loA (va_cons stbE (VF.ve (loF (vf_lst (loA (va_cons stbE (lv 4) (loA (va_cons stbE (lo (ve_callTy cd_tuple rfl f_tuple boot_tuple (loA (va_cons stbB (VE.b (lv 4)) (loA va_nil le_nil)) le_cons)) le_blt) (loA va_nil le_nil)) le_cons)) le_cons)) le_lst)) (loA va_nil le_nil)) le_cons)) le_cons)) (loA va_nil le_nil))))) (loSs (vss_cons (loS (vs_set (i := 6) (by decide) nd rfl (by first | exact .inl rfl | exact .inr rfl) (lo (ve_g tk rfl G__law_trees hr (by decide) rfl (loA (va_cons stbE (lv 3) (loA (va_cons stbE (lo (ve_g tk rfl G__law_rising hr (by decide) rfl (loA (va_cons stbE (VF.ve (loF (xf_lc rfl rfl nd (VIs.vi (loIs (vi_enum rfl f_enumerate (lv 4)) le_enum)) (blkOk_by (own := [("_law_k", 9), ("_law_x", 10)]) (N := N_law) (sc := defScope (top 30)) (by decide +kernel)) (by decide) (by decide) (fun c => loG (vg_tup rfl (vgs_cons (vg_name (i := 9) (by decide) nd rfl (by first | exact .inl rfl | exact .inr rfl)) (vgs_cons (vg_name (i := 10) (by decide) nd rfl (by first | exact .inl rfl | exact .inr rfl)) (vgs_nil))) (fun _ _ _ h => ((gsok_cons gok_nm (gsok_cons gok_nm (gsok_nil))) _ _ _ h).1)) (lg_tp (lgs_cons (lg_nm) (lgs_cons (lg_nm) (lgs_nil))))) (fun c => vts_one (loT (vt_cmp (od_notInX (Room.u66 hr)) (VE.b (lv 10)) (VE.b (lo (ve_slice (VE.b (lv 4)) (loO vo_none le_none) (loO (vo_some (VE.b (lv 9))) le_some)) le_sl)) rfl) le_binT)) (fun c => lo (ve_var (i := 10) (by decide) rfl (by first | exact .inl rfl | exact .inr (.inl rfl) | exact .inr (.inr rfl))) (le_var _))) le_lc)) (loA va_nil le_nil)) le_cons)) le_call) (loA va_nil le_nil)) le_cons)) le_cons)) le_call)) ls_set) (loSs (vss_cons (loS (vs_if (VW.t (loW (vw_or (loT (vt_cmp (od_neX (Room.u66 hr)) (VE.b (lo (ve_callB cd_len rfl f_len boot_len (loA (va_cons stbB (VE.b (lv 5)) (loA va_nil le_nil)) le_cons)) le_blt)) (VE.b (lo (ve_callB cd_len rfl f_len boot_len (loA (va_cons stbB (VE.b (lv 6)) (loA va_nil le_nil)) le_cons)) le_blt)) (nomark _)) le_binT) (vw_or1 (loT (vt_not (loT (vt_val (lo (ve_callB (cd_all rfl) rfl f_all boot_all (loA (va_cons stbB (VE.b (VF.ve (loF (xf_lc rfl rfl nd (VIs.vi (loIs (vi_seq (lv 6)) le_iter)) (blkOk_by (own := [("_law_rows", 11)]) (N := N_law) (sc := defScope (top 30)) (by decide +kernel)) (by decide) (by decide) (fun c => loG (vg_name (i := 11) (by decide) nd rfl (by first | exact .inl rfl | exact .inr rfl)) (lg_nm)) (fun c => loTs vts_nil le_yes) (fun c => lo (ve_cmp (od_eqX (Room.u66 hr)) (VE.b (lo (ve_countX (Room.u66 hr) (VE.b (lv 5)) (lv 11)) le_countX)) (VE.b (lo (ve_int) le_c)) (nomark _)) le_bin)) le_lc))) (loA va_nil le_nil)) le_cons)) le_blt)) le_val)) le_notT))) le_orT)) (vss_one (loS (vs_ret (lo (ve_bl) le_c)) ls_ret)) (loSs vss_nil ls_nil)) ls_if) (loSs (vss_cons (loS (vs_if (VW.t (loW (vw_and (loT (vt_val (lo (ve_callB (cd_all rfl) rfl f_all boot_all (loA (va_cons stbB (VE.b (VF.ve (loF (xf_lc rfl rfl nd (VIs.vi (loIs (vi_seq (lv 3)) le_iter)) (blkOk_by (own := [("_law_name", 7)]) (N := N_law) (sc := defScope (top 30)) (by decide +kernel)) (by decide) (by decide) (fun c => loG (vg_name (i := 7) (by decide) nd rfl (by first | exact .inl rfl | exact .inr rfl)) (lg_nm)) (fun c => loTs vts_nil le_yes) (fun c => lo (ve_cmp (od_inX (Room.u66 hr)) (VE.b (lv 7)) (VE.b (lv 4)) rfl) le_bin)) le_lc))) (loA va_nil le_nil)) le_cons)) le_blt)) le_val) (vw_and1 (loT (vt_cmp (od_neX (Room.u66 hr)) (VE.b (lo (ve_callB cd_len rfl f_len boot_len (loA (va_cons stbB (VE.b (lv 5)) (loA va_nil le_nil)) le_cons)) le_blt)) (VE.b (lo (ve_sub (Room.u hr) (VE.b (VF.ve (loF (vf_lst (loA (va_cons stbE (lo (ve_int) le_c) (loA (va_cons stbE (lo (ve_int) le_c) (loA (va_cons stbE (lo (ve_int) le_c) (loA (va_cons stbE (lo (ve_int) le_c) (loA (va_cons stbE (lo (ve_int) le_c) (loA va_nil le_nil)) le_cons)) le_cons)) le_cons)) le_cons)) le_cons)) le_lst))) (VE.b (lo (ve_callB cd_len rfl f_len boot_len (loA (va_cons stbB (VE.b (lv 3)) (loA va_nil le_nil)) le_cons)) le_blt)) (fun _ _ => rfl)) le_bin)) (nomark _)) le_binT))) le_andT)) (vss_one (loS (vs_ret (lo (ve_bl) le_c)) ls_ret)) (loSs vss_nil ls_nil)) ls_if) (loSs (vss_cons (loS (vs_if (loT (vt_not (loT (vt_val (lo (ve_callB (cd_all rfl) rfl f_all boot_all (loA (va_cons stbB (VE.b (VF.ve (loF (GF.xf_lcG rfl hT rfl nd rfl G_hangings hr (by decide) rfl (loA (va_cons stbE (lv 3) (loA (va_cons stbE (VF.ve (loF (vf_lst (loA va_nil le_nil)) le_lst)) (loA va_nil le_nil)) le_cons)) le_cons) (blkOk_by (own := [("_law_hanging", 8)]) (N := N_law) (sc := defScope (top 30)) (by decide +kernel)) (by decide +kernel) (by decide) (by decide) (fun c => loG (vg_name (i := 8) (by decide) nd rfl (by first | exact .inl rfl | exact .inr rfl)) (lg_nm)) (fun c => loTs vts_nil le_yes) (fun c => lo (ve_isC rfl f_isinstance rfl gl_Hanging ins_Hanging (lv 8)) le_isC)) GF.le_lcG))) (loA va_nil le_nil)) le_cons)) le_blt)) le_val)) le_notT) (vss_one (loS (vs_ret (lo (ve_bl) le_c)) ls_ret)) (loSs vss_nil ls_nil)) ls_if) (vss_one (loS (vs_if (loT (vt_cmp (od_neDL (Room.u66 hr)) (VE.b (lo (ve_g tk rfl G__law_found hr (by decide) rfl (loA (va_cons stbE (lv 3) (loA (va_cons stbE (VF.ve (loF (vf_lst (loA va_nil le_nil)) le_lst)) (loA va_nil le_nil)) le_cons)) le_cons)) le_call)) (VE.b (VF.ve (loF (vf_lst (loA (va_cons stbE (VF.ve (loF (vf_callTy (cf_dict rfl) rfl f_dict boot_dict (loA (va_cons stbB (VE.b (VF.ve (loF (xf_lc rfl rfl nd (VIs.vi (loIs (vi_seq (lo (ve_g tk rfl G__law_rising hr (by decide) rfl (loA (va_cons stbE (lv 3) (loA va_nil le_nil)) le_cons)) le_call)) le_iter)) (blkOk_by (own := [("_law_name", 7)]) (N := N_law) (sc := defScope (top 30)) (by decide +kernel)) (by decide) (by decide) (fun c => loG (vg_name (i := 7) (by decide) nd rfl (by first | exact .inl rfl | exact .inr rfl)) (lg_nm)) (fun c => loTs vts_nil le_yes) (fun c => lo (ve_tup (loA (va_cons stbE (lv 7) (loA (va_cons stbE (lo (ve_str) le_c) (loA va_nil le_nil)) le_cons)) le_cons)) le_tup)) le_lc))) (loA va_nil le_nil)) le_cons)) le_blt)) (loA va_nil le_nil)) le_cons)) le_lst))) (nomark _)) le_binT) (vss_one (loS (vs_ret (lo (ve_bl) le_c)) ls_ret)) (loSs vss_nil ls_nil)) ls_if))) ls_seq)) ls_seq)) ls_seq)) ls_seq))))) (vss_one (loS (vs_ret (lo (ve_bl) le_c)) ls_ret))
end DL.K08
namespace DL
open PySem PySem.Spec PyProof.Rows L2
variable [TabC]
/-- a loop that ends at the first one that tells something -/
theorem for_find {α : Type} {g : FG} {b : FS} (fD : α → D) (R : Ev → Prop) (c : α → Option D) : ∀ (L : List α) (s : Ev), R s → (∀ x ∈ L, ∀ s, R s → ∃ s1, g (fD x) s = some s1 ∧ ((c x = none ∧ ∃ s2, b s1 = .nx s2 ∧ R s2) ∨ ∃ d, c x = some d ∧ b s1 = .rt d)) → (L.findSome? c = none ∧ ∃ s', fForL g b (L.map fD) s = .nx s' ∧ R s') ∨ ∃ d, L.findSome? c = some d ∧ fForL g b (L.map fD) s = .rt d
  | [], s, h, _ => .inl ⟨rfl, s, rfl, h⟩
  | x :: L, s, h, st => by
    obtain ⟨s1, e1, h1⟩ := st x List.mem_cons_self s h
    have eF : fForL g b ((x :: L).map fD) s = (match b s1 with | .nx s2 => fForL g b (L.map fD) s2 | .ct s2 => fForL g b (L.map fD) s2 | .bk s2 => .nx s2 | o => o) := by
      rw [List.map_cons, fForL, e1]
      rfl
    rw [eF, List.findSome?_cons]
    rcases h1 with ⟨e2, s2, e3, h2⟩ | ⟨d, e2, e3⟩
    · rw [e2, e3]
      exact for_find fD R c L s2 h2 fun y hy => st y (List.mem_cons_of_mem _ hy)
    · rw [e2, e3]
      exact .inr ⟨d, rfl, rfl⟩
theorem bools_map {α : Type} (p : α → Bool) : ∀ xs : List α, boolsD (xs.map fun x => .bl (p x)) = some (xs.map p)
  | [] => rfl
  | x :: xs => by
    rw [List.map_cons]
    show (boolsD _).map _ = _
    rw [bools_map p xs]
    rfl
theorem all_map {α : Type} (p : α → Bool) (xs : List α) : dAll [.lst (xs.map fun x => .bl (p x))] = some (.bl (xs.all p)) := by
  show (boolsD _).map _ = _
  rw [bools_map]
  show some (D.bl ((xs.map p).all id)) = _
  rw [List.all_map]
  rfl
section
variable {bs : Dis} {ws : List Wi} {ss : List (List Str)} {r1 r2 : Row} {k1 k2 : Str → Nat}
end
/-! ### by how much: plain sums -/
section
variable {bs : Dis} {r1 r2 : Row} {k1 k2 : Str → Nat}
/-- times of the meal -/
def InT (bs : Dis) (t : Tm) : Prop := ∀ x ∈ keys bs, (get bs x).1 ≤ get t x ∧ get t x ≤ (get bs x).2
end
end DL
namespace DL
open PySem PySem.Spec PyProof.Rows L2
variable [TabC]
/-! ### drawn hangings -/
/-! ### one row otherwise -/
end DL
namespace DL
open PySem PySem.Spec PyProof.Rows L2
variable [TabC]
end DL
namespace DL
open PySem PySem.Spec PyProof.Rows L2
variable [TabC]
/-! ### moments as lists or tuples -/
def Mo.dl (tp : Bool) : Mo → D
  | .clock => .str "clock"
  | .start x => rowD tp [.str "start", .str x]
  | .done x => rowD tp [.str "done", .str x]
/-! ### the minute of a moment -/
def mn (rs : Row) (t : Tm) : Mo → Int
  | .clock => 0
  | .start x => st rs t x
  | .done x => st rs t x + get t x
theorem mn_eq (rs : Row) (t : Tm) (m : Mo) : mn rs t m = wsum rs m + ((wayM (anc rs) m).map (get t)).sum := by
  cases m with
  | clock => rfl
  | start x => rfl
  | done x =>
    show st rs t x + get t x = added rs x + ((chain (anc rs) x ++ [x]).map (get t)).sum
    unfold st
    rw [List.map_append, List.sum_append]
    show _ = added rs x + (_ + (get t x + 0))
    omega
section
variable {bs : Dis} {rs : Row} {rk : Str → Nat} {one other : Mo}
end
/-! ### the minutes of all times -/
end DL
namespace DL
open PySem PySem.Spec PyProof.Rows L2
variable [TabC]
/-! ### sorted or not -/
theorem ofM {f : FFn} {ds : List D} {d : D} {n : Nat} {Q : D → Nat → Prop} {xq : XQ} (h : f ds = .ok d) (q : Q d n) : (FSp.of f).run ds n Q xq := by
  show (f ds).wp xq n Q
  rw [h]
  exact q
theorem neI_f {i j : Int} (h : i = j) : dNe (.int i) (.int j) = some (.bl false) := by rw [dNe_int, h]; simp
/-! ### dicts of numbers, compared -/
/-! ### defs that tell something new -/
end DL
namespace DL
open PySem PySem.Spec PyProof.Rows L2
variable [TabC]
/-! ### the rows of a hanging, and their words -/
abbrev Wd := Str × Key
section
variable {tp : Bool} {a : Wd} {wd rows : List D}
end
/-! ### wishes and orders as rows -/
def ordW (p : Str × Str) : Wi := ⟨.start p.2, .done p.1, 0⟩
abbrev oD (p : Str × Str) : D := .tup [.str p.1, .str p.2]
section
variable {bs : Dis} {l : Anc} {rk : Str → Nat}
end
end DL
namespace DL
open PySem PySem.Spec PyProof.Rows L2
variable [TabC]
section
variable {bs : Dis} {l : Anc} {rk : Str → Nat}
variable {ws : List Wi} {os : List (Str × Str)} {ss : List (List Str)}
end
end DL
namespace DL
open PySem PySem.Spec PyProof.Rows L2
variable [TabC]
/-! ### the law's own numbers -/
end DL
namespace DL.SK
open PySem PySem.Spec PyProof.Rows L2
variable [TabC]
/-! ### what is told so far: some dishes hang, none round and round -/
structure PAcy (l : Anc) (rk : Str → Nat) : Prop where
  nd : (keys l).Nodup
  good : ∀ x ∈ keys l, Good x
  up : ∀ x a, l.lookup x = some a → a = "clock" ∨ (Good a ∧ rk a < rk x)
  bd : ∀ x, rk x < 2 ^ l.length
  len : l.length ≤ 8
theorem two_pow {n : Nat} (h : n ≤ 8) : 2 ^ n ≤ 256 := Nat.pow_le_pow_right (by decide) h
theorem nil_acy : PAcy [] (fun _ => 0) := ⟨List.nodup_nil, (fun _ h => nomatch h), (fun _ _ h => nomatch h), fun _ => by decide, by decide⟩
theorem up_moreP {l : Anc} {rk : Str → Nat} (A : PAcy l rk) : ∀ (k : Nat) (x : Str), rk x ≤ k → upN l k x = upN l (k + 1) x
  | 0, x, h => by
    rw [upN, upN]
    cases e : l.lookup x with
    | none => rfl
    | some a =>
      dsimp only
      rcases A.up x a e with z | z
      · rw [if_pos z]
      · omega
  | k + 1, x, h => by
    rw [upN, upN]
    cases e : l.lookup x with
    | none => rfl
    | some a =>
      dsimp only
      rcases A.up x a e with z | z
      · rw [if_pos z, if_pos z]
      · rw [if_neg z.1.nc, if_neg z.1.nc, up_moreP A k a (by omega)]
theorem up_allP {l : Anc} {rk : Str → Nat} (A : PAcy l rk) (x : Str) (k : Nat) (h : rk x ≤ k) : ∀ j, upN l (k + j) x = upN l k x
  | 0 => rfl
  | j + 1 => by
    rw [← up_allP A x k h j]
    exact (up_moreP A (k + j) x (by omega)).symm
/-- the way up as far as it is told -/
def wayP (l : Anc) (x : Str) : List Str := upN l 256 x
theorem wayP_eq {l : Anc} {rk : Str → Nat} (A : PAcy l rk) {x : Str} {k : Nat} (h : rk x ≤ k) (hk : k ≤ 256) : upN l k x = wayP l x := by
  have := up_allP A x k h (256 - k)
  rw [show k + (256 - k) = 256 by omega] at this
  exact this.symm
theorem rk_lt {l : Anc} {rk : Str → Nat} (A : PAcy l rk) (x : Str) : rk x < 256 := Nat.lt_of_lt_of_le (A.bd x) (two_pow A.len)
theorem wayP_none {l : Anc} {x : Str} (h : l.lookup x = none) : wayP l x = [] := by
  unfold wayP
  rw [show (256 : Nat) = 255 + 1 from rfl, upN, h]
theorem wayP_clock {l : Anc} {x : Str} (h : l.lookup x = some "clock") : wayP l x = [] := by
  unfold wayP
  rw [show (256 : Nat) = 255 + 1 from rfl, upN, h]
  rfl
theorem wayP_up {l : Anc} {rk : Str → Nat} (A : PAcy l rk) {x a : Str} (h : l.lookup x = some a) (ha : a ≠ "clock") : wayP l x = a :: wayP l a := by
  have hr := (A.up x a h).resolve_left ha
  have := rk_lt A x
  rw [← wayP_eq A (x := a) (k := 255) (by omega) (by decide)]
  show upN l (255 + 1) x = _
  rw [upN, h]
  dsimp only
  rw [if_neg ha]
theorem wayP_mem {l : Anc} {rk : Str → Nat} (A : PAcy l rk) : ∀ (k : Nat) (x : Str), rk x ≤ k → ∀ y ∈ wayP l x, Good y ∧ rk y < rk x
  | k, x, hk, y, hy => by
    cases e : l.lookup x with
    | none => rw [wayP_none e] at hy; cases hy
    | some a =>
      by_cases ha : a = "clock"
      · subst ha; rw [wayP_clock e] at hy; cases hy
      · have hr := (A.up x a e).resolve_left ha
        rw [wayP_up A e ha] at hy
        rcases List.mem_cons.mp hy with rfl | hy
        · exact hr
        · cases k with
          | zero => omega
          | succ k =>
            have := wayP_mem A k a (by omega) y hy
            exact ⟨this.1, by omega⟩
/-! ### settled dishes -/
theorem look_clock {l : Anc} {rk : Str → Nat} (A : PAcy l rk) : l.lookup ("clock" : Str) = none := by
  cases e : l.lookup ("clock" : Str) with
  | none => rfl
  | some a => exact absurd rfl (A.good "clock" (List.mem_map.mpr ⟨_, look_some e, rfl⟩)).nc
theorem acy_of {t : Anc} {rk : Str → Nat} (nd : (keys t).Nodup) (good : ∀ x ∈ keys t, Good x) (up : ∀ x a, t.lookup x = some a → a = "clock" ∨ (a ∈ keys t ∧ rk a < rk x)) (len : t.length ≤ 100) : ∃ rk2, Acy t rk2 := by
  refine ⟨fun x => ((keys t).filter fun y => decide (rk y < rk x)).length, nd, good, fun x a e => ?_, fun x hx => ?_, len⟩
  · rcases up x a e with z | ⟨h1, h2⟩
    · exact .inl z
    · refine .inr ⟨h1, ?_⟩
      have sub : ∀ L : List Str, a ∈ L → L.Nodup → (L.filter fun y => decide (rk y < rk a)).length < (L.filter fun y => decide (rk y < rk x)).length := fun L => by
        have le : ∀ L : List Str, (L.filter fun y => decide (rk y < rk a)).length ≤ (L.filter fun y => decide (rk y < rk x)).length := fun L => by
          induction L with
          | nil => exact Nat.le_refl _
          | cons y L ih =>
            rw [List.filter_cons, List.filter_cons]
            by_cases c1 : rk y < rk a
            · rw [if_pos (decide_eq_true c1), if_pos (decide_eq_true (by omega)), List.length_cons, List.length_cons]; omega
            · rw [if_neg (by rw [decide_eq_false c1]; decide)]
              split
              · rw [List.length_cons]; omega
              · exact ih
        induction L with
        | nil => exact fun h => nomatch h
        | cons y L ih =>
          intro h hn
          rw [List.nodup_cons] at hn
          rw [List.filter_cons, List.filter_cons]
          rcases List.mem_cons.mp h with rfl | h
          · rw [if_neg (by simp), if_pos (decide_eq_true h2), List.length_cons]
            have := le L
            omega
          · have ih := ih h hn.2
            by_cases c1 : rk y < rk a
            · rw [if_pos (decide_eq_true c1), if_pos (decide_eq_true (by omega)), List.length_cons, List.length_cons]; omega
            · rw [if_neg (by rw [decide_eq_false c1]; decide)]
              split
              · rw [List.length_cons]; omega
              · exact ih
      exact sub (keys t) h1 nd
  · have h : ((keys t).filter fun y => decide (rk y < rk x)).length < (keys t).length := by
      refine Nat.lt_of_le_of_ne (List.length_filter_le _ _) fun z => ?_
      have := (List.filter_eq_self.mp (List.Sublist.eq_of_length List.filter_sublist z)) x hx
      simp at this
    rw [List.length_map] at h
    exact h
/-- one dish more -/
theorem more_acy {l : Anc} {rk : Str → Nat} (A : PAcy l rk) {x a : Str} (hx : Good x) (hn : x ∉ keys l) (ha : a = "clock" ∨ (Good a ∧ a ≠ x ∧ x ∉ wayP l a)) (hl : l.length ≤ 7) : ∃ rk', PAcy (l ++ [(x, a)]) rk' := by
  have lk : ∀ y b, (l ++ [(x, a)]).lookup y = some b → l.lookup y = some b ∨ (y = x ∧ b = a) := fun y b e => by
    rw [List.lookup_append] at e
    cases h : l.lookup y with
    | some c => rw [h] at e; exact .inl e
    | none =>
      rw [h] at e
      have e : List.lookup y [(x, a)] = some b := e
      rw [List.lookup_cons] at e
      by_cases z : (y == x) = true
      · rw [z] at e
        exact .inr ⟨by simpa using z, (Option.some.inj e).symm⟩
      · have z2 : (y == x) = false := by simpa using z
        rw [z2] at e
        cases e
  have hx0 : l.lookup x = none := look_none hn
  obtain ⟨c, hc⟩ : ∃ c, c = if a = "clock" then 0 else rk a + 1 := ⟨_, rfl⟩
  have cb : c ≤ 2 ^ l.length := by
    rw [hc]
    split
    · exact Nat.zero_le _
    · exact A.bd a
  refine ⟨fun y => if y = x then c else rk y + if x ∈ wayP l y then c else 0, ?_, fun y hy => ?_, fun y b e => ?_, fun y => ?_, by rw [List.length_append]; show l.length + 1 ≤ 8; omega⟩
  · unfold keys
    rw [List.map_append, List.nodup_append]
    refine ⟨A.nd, List.nodup_cons.mpr ⟨List.not_mem_nil, List.nodup_nil⟩, fun p hp q hq z => ?_⟩
    have : q = x := by simpa using hq
    rw [z, this] at hp
    exact hn hp
  · unfold keys at hy
    rw [List.map_append] at hy
    rcases List.mem_append.mp hy with z | z
    · exact A.good y z
    · have : y = x := by simpa using z
      rw [this]; exact hx
  · rcases lk y b e with z | ⟨rfl, rfl⟩
    · have hyx : y ≠ x := fun q => by rw [q, hx0] at z; cases z
      by_cases hb : b = "clock"
      · exact .inl hb
      · refine .inr ⟨((A.up y b z).resolve_left hb).1, ?_⟩
        have hr := ((A.up y b z).resolve_left hb).2
        rw [if_neg hyx]
        by_cases q : b = x
        · rw [if_pos q, wayP_up A z hb, if_pos (by rw [q]; exact List.mem_cons_self)]
          omega
        · rw [if_neg q, wayP_up A z hb]
          by_cases q2 : x ∈ wayP l b
          · rw [if_pos q2, if_pos (List.mem_cons_of_mem _ q2)]; omega
          · rw [if_neg q2, if_neg (fun w => (List.mem_cons.mp w).elim (fun w => q w.symm) q2)]; omega
    · rcases ha with z | ⟨h1, h2, h3⟩
      · exact .inl z
      · refine .inr ⟨h1, ?_⟩
        rw [if_pos rfl, if_neg h2, if_neg h3, hc, if_neg h1.nc]
        omega
  · rw [List.length_append, List.length_singleton, Nat.pow_succ]
    have := A.bd y
    split
    · have : 0 < 2 ^ l.length := Nat.pos_of_ne_zero (by simp)
      omega
    · split <;> omega
end DL.SK
namespace DL
open PySem PySem.Spec PyProof.Rows L2
variable [TabC]
end DL
namespace DL
/-! ### rounds of rows: the worths are pushed down, pass by pass; a worth may be lacking -/
section
variable {α : Type} [DecidableEq α]
abbrev Edge (α : Type) := α × α × Int
/-! what goes with each step -/
/-! ### back along the rows that moved last -/
theorem nd_lenα {xs : List α} (hn : xs.Nodup) : ∀ {L : List α}, (∀ x ∈ xs, x ∈ L) → xs.length ≤ L.length := by
  induction xs with
  | nil => intro L _; exact Nat.zero_le _
  | cons x xs ih =>
    intro L h
    rw [List.nodup_cons] at hn
    have hx := h x List.mem_cons_self
    have := ih hn.2 (L := L.erase x) fun y hy => by
      have hyx : y ≠ x := fun e => hn.1 (e ▸ hy)
      exact (List.mem_erase_of_ne hyx).mpr (h y (List.mem_cons_of_mem _ hy))
    rw [List.length_erase_of_mem hx] at this
    have hp : 0 < L.length := List.length_pos_of_mem hx
    rw [List.length_cons]
    omega
end
end DL
namespace DL
section
variable {α : Type} [DecidableEq α]
/-! ### rows that lead from one to another -/
/-! the way back -/
/-- the least number at which something holds -/
theorem least {P : Nat → Prop} : ∀ n, P n → ∃ m, m ≤ n ∧ P m ∧ ∀ i, i < m → ¬ P i
  | 0, h => ⟨0, Nat.le_refl _, h, fun _ z => nomatch z⟩
  | n + 1, h => by
    by_cases z : ∃ i, i ≤ n ∧ P i
    · obtain ⟨i, hi, hp⟩ := z
      obtain ⟨m, h1, h2, h3⟩ := least i hp
      exact ⟨m, by omega, h2, h3⟩
    · exact ⟨n + 1, Nat.le_refl _, h, fun i hi hp => z ⟨i, by omega, hp⟩⟩
termination_by n => n
/-! ### all worths known: rows are kept, or there is a ring -/
/-! ### from one origin -/
inductive Walk (rows : List (Edge α)) (o : α) : α → Int → Prop
  | nil : Walk rows o o 0
  | step {u v : α} {x c : Int} : Walk rows o u x → (u, v, c) ∈ rows → Walk rows o v (x + c)
end
end DL
namespace DL
open PySem PySem.Spec PyProof.Rows L2
variable [TabC]
/-! ### dicts from things to data, whatever they are kept in -/
section
variable {α : Type} [DecidableEq α]
def putA (l : List (α × D)) (x : α) (d : D) : List (α × D) := if x ∈ l.map (·.1) then l.map (fun p => if p.1 = x then (p.1, d) else p) else l ++ [(x, d)]
structure Ops (α : Type) [DecidableEq α] where
  key : α → D
  ok : α → Prop
  enc : List (α × D) → D
  idx : D → D → Option D
  inn : D → D → Option D
  nin : D → D → Option D
  put : Nat → FM D → FM D → FS
  em : FM D
  cp : FM D
  ln : FM D
  disp : FM D
  look : ∀ {l : List (α × D)} {x : α}, ok x → (∀ p ∈ l, ok p.1) → idx (enc l) (key x) = l.lookup x
  isIn : ∀ {l : List (α × D)} {x : α}, ok x → (∀ p ∈ l, ok p.1) → inn (key x) (enc l) = some (.bl (l.lookup x).isSome)
  notIn : ∀ {l : List (α × D)} {x : α}, ok x → (∀ p ∈ l, ok p.1) → nin (key x) (enc l) = some (.bl (!(l.lookup x).isSome))
  puts : ∀ {i : Nat} {s : Ev} {l : List (α × D)} {k a : FM D} {x : α} {d : D}, s[i]? = some (some (enc l)) → a s = .ok d → k s = .ok (key x) → ok x → (∀ p ∈ l, ok p.1) → l.length < LIM → put i k a s = .nx (s.set i (some (enc (putA l x d))))
  ne : ∀ {x y : α}, ok x → ok y → dNe (key x) (key y) = some (.bl (!decide (x = y)))
  isn : ∀ x : α, dIs (key x) .non = some (.bl false)
  ems : ∀ s, em s = .ok (enc [])
  cps : ∀ {s : Ev} {l : List α}, s[1]? = some (some (enc (l.map fun x => (x, .bl true)))) → l.Nodup → (∀ x ∈ l, ok x) → l.length < LIM → 12 < s.length → cp s = .ok (enc (l.map fun x => (x, .int 0)))
  lns : ∀ {s : Ev} {l : List (α × D)}, s[1]? = some (some (enc l)) → l.length < LIM → ln s = .ok (.int l.length)
  disps : ∀ {s : Ev} {x : α}, s[1]? = some (some (key x)) → ok x → disp s = .ok (enc [(x, .int 0)])
/-! the program's text, over any dicts -/
variable (O : Ops α)
def H1 : FS := (fIfS (fAndT (fBinT O.inn (fVar 4) (fVar 2)) (fOrT (fBinT O.nin (fVar 5) (fVar 2)) (fBinT dLt (fBin dAdd (fBin O.idx (fVar 2) (fVar 4)) (fVar 6)) (fBin O.idx (fVar 2) (fVar 5))))) (fSeq (O.put 2 (fVar 5) (fBin dAdd (fBin O.idx (fVar 2) (fVar 4)) (fVar 6))) (fSet 3 (fC (.bl true)))) fNilS)
def H2 : FS := (fSeq (fSet 3 (fC (.bl false))) (fFor (fIter (fVar 0)) (fgTp (fgsCons (fgNm 4) (fgsCons (fgNm 5) (fgsCons (fgNm 6) fgsNil)))) (H1 O)))
variable {O}
end
end DL
namespace DL
open PySem PySem.Spec PyProof.Rows L2
variable [TabC]
section
variable {α : Type} [DecidableEq α] {O : Ops α}
end
end DL
namespace DL
open PySem PySem.Spec PyProof.Rows L2
variable [TabC]
section
variable {α : Type} [DecidableEq α] {O : Ops α}
/-! ### bounds -/
def ends (rows : List (Edge α)) : List α := rows.flatMap fun r => [r.1, r.2.1]
end
end DL
namespace DL
open PySem PySem.Spec PyProof.Rows L2
variable [TabC]
/-! ### texts as keys -/
/-- rows between texts -/
abbrev eD (r : Edge Str) : D := .tup [.str r.1, .str r.2.1, .int r.2.2]
end DL
namespace DL
open PySem PySem.Spec PyProof.Rows L2
variable [TabC]
/-! ### rows of a hanging: a ring, or least and greatest sums -/
def wedge (bs : Dis) (l : Anc) (w : Wi) : Edge Str := (w.one.dish, w.other.dish, w.most - uns bs l w.one w.other)
def rowsE (bs : Dis) (l : Anc) (ws : List Wi) (os : List (Str × Str)) : List (Edge Str) := (l.map (fun p => ((p.1, p.2, 0) : Edge Str)) ++ ws.map (wedge bs l)) ++ os.map fun p => wedge bs l (ordW p)
def turned (rows : List (Edge Str)) : List (Edge Str) := rows.map fun r => (r.2.1, r.1, r.2.2)
section
variable {bs : Dis} {l : Anc} {rk : Str → Nat} {ws : List Wi} {os : List (Str × Str)} {ss : List (List Str)} {oe : D}
/-! books with some sums -/
end
end DL
namespace DL
open PySem PySem.Spec PyProof.Rows L2
variable [TabC]
/-! ### worst times; whether all wishes are kept -/
section
variable {bs : Dis} {ws : List Wi} {rs : Row} {rk : Str → Nat}
/-- a book keeps a wish in all times -/
def keeps (bs : Dis) (rs : Row) (w : Wi) : Bool := decide (behd bs rs w.one w.other ≤ w.most)
end
/-! ### what a book's sums keep -/
section
variable {bs : Dis} {rs : Row} {l : Anc} {rk : Str → Nat} {ws : List Wi} {os : List (Str × Str)}
/-! the rows by their places -/
end
end DL
namespace DL
open PySem PySem.Spec PyProof.Rows L2
variable [TabC]
/-! ### least sums, greatest sums -/
section
variable {bs : Dis} {l : Anc} {rk : Str → Nat} {ws : List Wi} {os : List (Str × Str)} {ss : List (List Str)} {oe : D}
theorem wait_row {p : Str × Str} (hp : p ∈ l) : (p.1, p.2, (0 : Int)) ∈ rowsE bs l ws os := List.mem_append_left _ (List.mem_append_left _ (List.mem_map.mpr ⟨p, hp, rfl⟩))
theorem wait_turn {p : Str × Str} (hp : p ∈ l) : (p.2, p.1, (0 : Int)) ∈ turned (rowsE bs l ws os) := List.mem_map.mpr ⟨_, wait_row hp, rfl⟩
theorem reach (A : Acy l rk) : ∀ x ∈ keys l, Walk (turned (rowsE bs l ws os)) "clock" x 0 := by
  refine A.ind (fun x h => ?_) (fun x a h _ _ _ ih => ?_)
  · exact .step (x := 0) .nil (wait_turn (look_some h))
  · exact .step (x := 0) ih (wait_turn (look_some h))
end
end DL
namespace DL
open PySem PySem.Spec PyProof.Rows L2
variable [TabC]
theorem addL {xs ys : List D} (h : xs.length + ys.length ≤ 1000) : dAdd (.lst xs) (.lst ys) = some (.lst (xs ++ ys)) := by
  show (if xs.length + ys.length ≤ LIM then some (D.lst (xs ++ ys)) else none) = _
  rw [if_pos (by unfold LIM; omega)]
theorem slE {x : FM D} {lo hi : FM (Option Int)} {s : Ev} {d r : D} {i j : Option Int} (h1 : x s = .ok d) (h2 : lo s = .ok i) (h3 : hi s = .ok j) (h4 : dSl d i j = some r) : fSl x lo hi s = .ok r := by
  unfold fSl
  rw [h1]
  show (lo s).bind _ = _
  rw [h2]
  show (hi s).bind _ = _
  rw [h3]
  show ofO _ = _
  rw [h4]
  rfl
end DL
namespace DL
open PySem PySem.Spec PyProof.Rows L2
variable [TabC]
/-! ### the law's own least sums -/
/-! the dict -/
section
variable {ns : List Str} {rows : List (Edge Str)}
end
end DL
namespace DL
open PySem PySem.Spec PyProof.Rows L2
variable [TabC]
/-! ### moments as keys -/
instance decMo : DecidableEq Mo
  | .clock, .clock => .isTrue rfl
  | .start x, .start y => if h : x = y then .isTrue (by rw [h]) else .isFalse fun e => h (Mo.start.inj e)
  | .done x, .done y => if h : x = y then .isTrue (by rw [h]) else .isFalse fun e => h (Mo.done.inj e)
  | .clock, .start _ => .isFalse fun e => nomatch e
  | .clock, .done _ => .isFalse fun e => nomatch e
  | .start _, .clock => .isFalse fun e => nomatch e
  | .start _, .done _ => .isFalse fun e => nomatch e
  | .done _, .clock => .isFalse fun e => nomatch e
  | .done _, .start _ => .isFalse fun e => nomatch e
end DL
namespace DL.TT
open PySem PySem.Spec PyProof.Rows L2
variable [TabC]
/-! ### the rows that times must keep -/
/-! ### the rows and the minutes -/
variable {bs : Dis} {rs : Row} {rk : Str → Nat}
/-! ### what times_with answers -/
theorem addLT {xs ys : List D} (h : xs.length + ys.length ≤ 1000) : dAdd (.lst xs) (.lst ys) = some (.lst (xs ++ ys)) := by
  show (if xs.length + ys.length ≤ LIM then some (D.lst (xs ++ ys)) else none) = _
  rw [if_pos (by unfold LIM; omega)]
/-! ### loose wishes -/
end DL.TT
namespace DL
open PySem PySem.Spec PyProof.Rows L2
variable [TabC]
/-! ### things in ascending order, whatever is compared -/
section
variable {α : Type} (R : α → α → Bool)
end
/-! ### pairs of ascending names -/
/-! ### two dishes at a station -/
def onB (rs : Row) (t : Tm) (p : Str × Str) : Prop := mn rs t (.start p.1) < mn rs t (.done p.2) ∧ mn rs t (.start p.2) < mn rs t (.done p.1)
end DL
namespace DL
open PySem PySem.Spec PyProof.Rows L2
variable [TabC]
/-! ### two dishes that are never on at once come in one order -/
variable {bs : Dis} {rs : Row} {rk : Str → Nat}
/-- times with one dish otherwise -/
def setT (t : Tm) (x : Str) (m : Int) : Tm := t.map fun p => (p.1, if p.1 = x then m else p.2)
theorem keys_setT (t : Tm) (x : Str) (m : Int) : keys (setT t x m) = keys t := by
  unfold setT keys
  rw [List.map_map]
  rfl
theorem look_setT (t : Tm) (x : Str) (m : Int) (y : Str) : (setT t x m).lookup y = (t.lookup y).map fun v => if y = x then m else v := by
  induction t with
  | nil => rfl
  | cons p t ih =>
    unfold setT at ih ⊢
    rw [List.map_cons, List.lookup_cons, List.lookup_cons]
    by_cases h : (y == p.1) = true
    · have e : y = p.1 := by simpa using h
      rw [h]
      subst e
      rfl
    · have h2 : (y == p.1) = false := by simpa using h
      rw [h2]
      exact ih
theorem get_setT {t : Tm} {x y : Str} {m : Int} (hy : y ∈ keys t) : get (setT t x m) y = if y = x then m else get t y := by
  unfold get
  rw [look_setT, look_get hy]
  rfl
theorem sum_set {f : Str → Int} {x : Str} {d : Int} : ∀ {ys : List Str}, ys.Nodup → (ys.map fun y => if y = x then f y + d else f y).sum = (ys.map f).sum + if x ∈ ys then d else 0
  | [], _ => by simp
  | y :: ys, h => by
    rw [List.nodup_cons] at h
    have ih := sum_set (f := f) (x := x) (d := d) h.2
    rw [List.map_cons, List.sum_cons, ih, List.map_cons, List.sum_cons]
    by_cases e : y = x
    · subst e
      rw [if_pos rfl, if_neg h.1, if_pos List.mem_cons_self]
      omega
    · rw [if_neg e]
      by_cases e2 : x ∈ ys
      · rw [if_pos e2, if_pos (List.mem_cons_of_mem _ e2)]; omega
      · rw [if_neg e2, if_neg (fun z => (List.mem_cons.mp z).elim (fun z => e z.symm) e2)]; omega
theorem wayM_nd (B : BookOk rs rk) {m : Mo} (h : m.ok (keys rs)) : (wayM (anc rs) m).Nodup := by
  have hk : ∀ x, x ∈ keys rs → x ∈ keys (anc rs) := fun x hx => by rw [keys_anc]; exact hx
  cases m with
  | clock => exact List.nodup_nil
  | start x => exact chain_nd B.acy x (hk x h)
  | done x =>
    show (chain (anc rs) x ++ [x]).Nodup
    rw [List.nodup_append]
    refine ⟨chain_nd B.acy x (hk x h), List.nodup_cons.mpr ⟨List.not_mem_nil, List.nodup_nil⟩, fun a ha b hb z => ?_⟩
    rw [List.mem_singleton] at hb
    have := (chain_rk B.acy x (hk x h) a ha).2
    rw [z, hb] at this
    exact Nat.lt_irrefl _ this
/-- one dish takes d minutes more -/
theorem mn_set (B : BookOk rs rk) {t : Tm} {x : Str} {d : Int} (hk : ∀ y ∈ keys rs, y ∈ keys t) {m : Mo} (h : m.ok (keys rs)) : mn rs (setT t x (get t x + d)) m = mn rs t m + if x ∈ wayM (anc rs) m then d else 0 := by
  rw [mn_eq, mn_eq]
  have e : (wayM (anc rs) m).map (get (setT t x (get t x + d))) = (wayM (anc rs) m).map fun y => if y = x then get t y + d else get t y := by
    refine List.map_congr_left fun y hy => ?_
    have hy2 := way_mem B.acy (Mo.ok_anc h) y hy
    rw [keys_anc] at hy2
    rw [get_setT (hk y hy2)]
    by_cases z : y = x
    · rw [if_pos z, if_pos z, z]
    · rw [if_neg z, if_neg z]
  rw [e, sum_set (wayM_nd B h)]
  omega
def dist1 (t u : Tm) (ks : List Str) : Nat := (ks.map fun x => (get t x - get u x).natAbs).sum
theorem dist_zero {t u : Tm} : ∀ {ks : List Str}, dist1 t u ks = 0 → ∀ x ∈ ks, get t x = get u x
  | k :: ks, h, x, hx => by
    unfold dist1 at h
    rw [List.map_cons, List.sum_cons] at h
    rcases List.mem_cons.mp hx with rfl | hx
    · omega
    · exact dist_zero (ks := ks) (by unfold dist1; omega) x hx
theorem dist_step {t u : Tm} {x : Str} {m : Int} (hm : (m - get u x).natAbs + 1 = (get t x - get u x).natAbs) : ∀ {ks : List Str}, ks.Nodup → (∀ y ∈ ks, y ∈ keys t) → x ∈ ks → dist1 (setT t x m) u ks + 1 = dist1 t u ks
  | k :: ks, hn, hk, hx => by
    rw [List.nodup_cons] at hn
    have e : ∀ y ∈ keys t, get (setT t x m) y = if y = x then m else get t y := fun y hy => get_setT hy
    unfold dist1
    rw [List.map_cons, List.sum_cons, List.map_cons, List.sum_cons, e k (hk k List.mem_cons_self)]
    by_cases z : k = x
    · subst z
      rw [if_pos rfl]
      have : (ks.map fun y => (get (setT t k m) y - get u y).natAbs) = ks.map fun y => (get t y - get u y).natAbs := by
        refine List.map_congr_left fun y hy => ?_
        rw [e y (hk y (List.mem_cons_of_mem _ hy)), if_neg]
        intro z
        exact hn.1 (z ▸ hy)
      rw [this]
      omega
    · rw [if_neg z]
      have := dist_step (u := u) hm hn.2 (fun y hy => hk y (List.mem_cons_of_mem _ hy)) ((List.mem_cons.mp hx).resolve_left fun z2 => z z2.symm)
      unfold dist1 at this
      omega
theorem dist_pos {t u : Tm} : ∀ {ks : List Str}, dist1 t u ks ≠ 0 → ∃ x ∈ ks, get t x ≠ get u x
  | [], h => absurd rfl h
  | k :: ks, h => by
    by_cases z : get t k = get u k
    · have : dist1 t u ks ≠ 0 := by
        unfold dist1 at h ⊢
        rw [List.map_cons, List.sum_cons, z, Int.sub_self] at h
        simpa using h
      obtain ⟨x, hx, hn⟩ := dist_pos this
      exact ⟨x, List.mem_cons_of_mem _ hx, hn⟩
    · exact ⟨k, List.mem_cons_self, z⟩
/-- from times in which b is ahead to times in which a is ahead: on the way they meet -/
theorem between (B : BookOk rs rk) (hp : (keys bs).Perm (keys rs)) {a b : Str} (ha : a ∈ keys rs) (hb : b ∈ keys rs) (pos : ∀ x ∈ keys bs, 1 ≤ (get bs x).1) (never : ∀ t, InT bs t → (∀ x ∈ keys bs, x ∈ keys t) → ¬ onB rs t (a, b)) {u : Tm} (hu : InT bs u) (au : mn rs u (.done a) ≤ mn rs u (.start b)) (ku : ∀ x ∈ keys bs, x ∈ keys u) :
    ∀ (n : Nat) (t : Tm), dist1 t u (keys bs) = n → InT bs t → (∀ x ∈ keys bs, x ∈ keys t) → ¬ mn rs t (.done b) ≤ mn rs t (.start a)
  | n, t, hd, ht, kt => by
    intro hB
    have hnd : (keys bs).Nodup := hp.nodup_iff.mpr B.nd
    have durS : ∀ (t : Tm), InT bs t → ∀ x ∈ keys rs, mn rs t (.start x) + 1 ≤ mn rs t (.done x) := fun t ht x hx => by
      have h1 := pos x (hp.symm.subset hx)
      have h2 := (ht x (hp.symm.subset hx)).1
      show mn rs t (.start x) + 1 ≤ mn rs t (.start x) + get t x
      omega
    cases n with
    | zero =>
      have e := dist_zero hd
      have em : ∀ m : Mo, m.ok (keys rs) → mn rs t m = mn rs u m := fun m hm => by
        rw [mn_eq, mn_eq]
        congr 2
        refine List.map_congr_left fun y hy => ?_
        have hy2 := way_mem B.acy (Mo.ok_anc hm) y hy
        rw [keys_anc] at hy2
        exact e y (hp.symm.subset hy2)
      rw [em (.done b) hb, em (.start a) ha] at hB
      have h1 := durS u hu a ha
      have h2 := durS u hu b hb
      omega
    | succ n =>
      obtain ⟨x, hx, hne⟩ := dist_pos (t := t) (u := u) (ks := keys bs) (by omega)
      have hbt := ht x hx
      have hbu := hu x hx
      obtain ⟨d, hdd, hd1⟩ : ∃ d : Int, (d = 1 ∨ d = -1) ∧ (get t x + d - get u x).natAbs + 1 = (get t x - get u x).natAbs := by
        rcases Int.lt_or_gt_of_ne hne with h | h
        · exact ⟨1, .inl rfl, by omega⟩
        · exact ⟨-1, .inr rfl, by omega⟩
      have hs := dist_step (u := u) hd1 hnd kt hx
      have kt2 : ∀ y ∈ keys bs, y ∈ keys (setT t x (get t x + d)) := fun y hy => by rw [keys_setT]; exact kt y hy
      have it : InT bs (setT t x (get t x + d)) := fun y hy => by
        rw [get_setT (kt y hy)]
        by_cases z : y = x
        · rw [if_pos z, z]
          rcases hdd with rfl | rfl <;> omega
        · rw [if_neg z]
          exact ht y hy
      have nB := between B hp ha hb pos never hu au ku n _ (by omega) it kt2
      have nev := never _ it kt2
      unfold onB at nev
      dsimp only at nev
      have g := mn_set B (t := t) (x := x) (d := d) (fun y hy => kt y (hp.symm.subset hy)) (m := .done b) hb
      have g2 := mn_set B (t := t) (x := x) (d := d) (fun y hy => kt y (hp.symm.subset hy)) (m := .start a) ha
      have d1 := durS _ it a ha
      have d2 := durS _ it b hb
      split at g <;> split at g2 <;> rcases hdd with rfl | rfl <;> omega
end DL
namespace DL.SK
open PySem PySem.Spec PyProof.Rows L2
variable [TabC]
section
variable {bs : Dis} {l : Anc} {rk : Str → Nat} {ws : List Wi} {os : List (Str × Str)} {ss : List (List Str)}
/-! ### rows of what is told -/
end
end DL.SK
namespace DL.SK
open PySem PySem.Spec PyProof.Rows L2
variable [TabC]
section
variable {bs : Dis} {l l' t : Anc} {rk rk' : Str → Nat} {ws : List Wi} {os os' : List (Str × Str)} {ss : List (List Str)} {looks : List Str}
/-! ### whole hangings that go on from what is told -/
/-! ### what there may be -/
/-- what a dish may hang on -/
def chs (l : Anc) (looks : List Str) (x : Str) : List Str := "clock" :: looks.filter fun k => decide (k ≠ x) && decide (x ∉ wayP l k)
theorem wayP_sub (A : PAcy l rk) (A' : Acy l' rk') (h : ∀ x a, l.lookup x = some a → l'.lookup x = some a) : ∀ a ∈ keys l', ∀ y ∈ wayP l a, y ∈ chain l' a := by
  refine A'.ind (fun a e y hy => ?_) (fun a b e hb hk hr ih y hy => ?_)
  · cases e2 : l.lookup a with
    | none => rw [wayP_none e2] at hy; cases hy
    | some c =>
      have := h a c e2
      rw [e] at this
      cases this
      rw [wayP_clock e2] at hy; cases hy
  · cases e2 : l.lookup a with
    | none => rw [wayP_none e2] at hy; cases hy
    | some c =>
      have := h a c e2
      rw [e] at this
      cases this
      rw [wayP_up A e2 hb] at hy
      rw [chain_up A' e hb]
      rcases List.mem_cons.mp hy with z | z
      · rw [z]; exact List.mem_cons_self
      · exact List.mem_cons_of_mem _ (ih y z)
theorem look_more {x a y : Str} (hn : x ∉ keys l) : (l ++ [(x, a)]).lookup y = if y = x then some a else l.lookup y := by
  rw [List.lookup_append]
  by_cases e : y = x
  · rw [if_pos e, e, look_none hn]
    show List.lookup x [(x, a)] = some a
    rw [List.lookup_cons, beq_self_eq_true]
  · rw [if_neg e]
    cases h : l.lookup y with
    | some c => rfl
    | none =>
      show List.lookup y [(x, a)] = none
      rw [List.lookup_cons, show (y == x) = false by simpa using e]
      rfl
end
end DL.SK
namespace DL.SK
open PySem PySem.Spec PyProof.Rows L2
variable [TabC]
section
variable {bs : Dis} {l l' t : Anc} {rk rk' : Str → Nat} {ws : List Wi} {os os' : List (Str × Str)} {ss : List (List Str)} {looks : List Str}
/-! ### an open pair -/
end
end DL.SK
namespace DL.SK
open PySem PySem.Spec PyProof.Rows L2
variable [TabC]
/-! ### pairs without an order -/
section
variable {bs : Dis} {l l' t : Anc} {rk rk' : Str → Nat} {ws : List Wi} {os os' : List (Str × Str)} {ss : List (List Str)} {looks : List Str} {U : List (Str × Str)}
theorem nd_len {ks xs : List Str} (hn : xs.Nodup) (h : ∀ x ∈ xs, x ∈ ks) : xs.length ≤ ks.length := nd_lenα hn h
/-- each once, where it comes first -/
def dd (xs : List Str) : List Str := xs.foldl (fun acc x => if x ∈ acc then acc else acc ++ [x]) []
theorem dd_len_go : ∀ (xs acc : List Str), (xs.foldl (fun acc x => if x ∈ acc then acc else acc ++ [x]) acc).length ≤ acc.length + xs.length
  | [], acc => Nat.le_refl _
  | x :: xs, acc => by
    rw [List.foldl_cons]
    have := dd_len_go xs (if x ∈ acc then acc else acc ++ [x])
    rw [List.length_cons]
    split at this
    · rename_i c
      rw [if_pos c]; omega
    · rename_i c
      rw [if_neg c]
      rw [List.length_append, List.length_singleton] at this
      omega
theorem dd_len (xs : List Str) : (dd xs).length ≤ xs.length := by
  have := dd_len_go xs []
  rw [List.length_nil, Nat.zero_add] at this
  exact this
/-! ### what a dish hangs on, one after the other -/
end
end DL.SK
namespace DL.SK
open PySem PySem.Spec PyProof.Rows L2
variable [TabC]
section
variable {bs : Dis} {l l' t : Anc} {rk rk' : Str → Nat} {ws : List Wi} {os os' : List (Str × Str)} {ss : List (List Str)} {looks : List Str} {U : List (Str × Str)}
end
end DL.SK
namespace DL.SK
open PySem PySem.Spec PyProof.Rows L2
variable [TabC]
section
variable {bs : Dis} {ws : List Wi} {ss : List (List Str)} {looks : List Str} {U : List (Str × Str)}
end
end DL.SK
namespace DL.SK
open PySem PySem.Spec PyProof.Rows L2
variable [TabC]
/-! ### the pairs at stations, each once -/
section
variable {ks : List Str} {ss : List (List Str)}
end
end DL.SK
namespace DL.SK
open PySem PySem.Spec PyProof.Rows L2
variable [TabC]
/-! ### all choices of orders -/
/-! ### all trees -/
def trS (on : List Str) (acc : List Anc) (x : Str) : List Anc := acc.flatMap fun l => on.map fun a => l ++ [(x, a)]
def trs (on names : List Str) : List Anc := names.foldl (trS on) [[]]
theorem mem_trs_go {on : List Str} : ∀ {names : List Str} {acc : List Anc} {l : Anc}, l ∈ names.foldl (trS on) acc ↔ ∃ l0 ∈ acc, ∃ l1 : Anc, l = l0 ++ l1 ∧ keys l1 = names ∧ ∀ p ∈ l1, p.2 ∈ on
  | [], acc, l => by
    constructor
    · exact fun h => ⟨l, h, [], (List.append_nil _).symm, rfl, fun p hp => nomatch hp⟩
    · rintro ⟨l0, h, l1, rfl, h1, _⟩
      cases l1 with
      | nil => rw [List.append_nil]; exact h
      | cons q l1 => cases h1
  | x :: names, acc, l => by
    rw [List.foldl_cons, mem_trs_go]
    constructor
    · rintro ⟨l0, h, l1, rfl, h1, h2⟩
      unfold trS at h
      obtain ⟨l2, hl2, h⟩ := List.mem_flatMap.mp h
      obtain ⟨a, ha, rfl⟩ := List.mem_map.mp h
      refine ⟨l2, hl2, (x, a) :: l1, by rw [List.append_assoc]; rfl, ?_, fun p hp => (List.mem_cons.mp hp).elim (fun e => e ▸ ha) (h2 p)⟩
      show x :: keys l1 = _
      rw [h1]
    · rintro ⟨l0, h, l1, rfl, h1, h2⟩
      cases l1 with
      | nil => cases h1
      | cons q l1 =>
        have h3 := List.cons.inj h1
        refine ⟨l0 ++ [q], ?_, l1, by rw [List.append_assoc]; rfl, h3.2, fun p hp => h2 p (List.mem_cons_of_mem _ hp)⟩
        unfold trS
        refine List.mem_flatMap.mpr ⟨l0, h, List.mem_map.mpr ⟨q.2, h2 q List.mem_cons_self, ?_⟩⟩
        rw [← h3.1]
theorem mem_trs {on names : List Str} {l : Anc} : l ∈ trs on names ↔ keys l = names ∧ ∀ p ∈ l, p.2 ∈ on := by
  unfold trs
  rw [mem_trs_go]
  constructor
  · rintro ⟨l0, h, l1, rfl, h1⟩
    rw [List.mem_singleton.mp h]
    exact h1
  · exact fun h => ⟨[], List.mem_singleton.mpr rfl, l, rfl, h⟩
theorem trS_len {on : List Str} {x : Str} : ∀ acc : List Anc, (trS on acc x).length = acc.length * on.length
  | [] => by simp [trS]
  | l :: acc => by
    unfold trS
    rw [List.flatMap_cons, List.length_append, List.length_map, List.length_cons, Nat.add_mul]
    have := trS_len (on := on) (x := x) acc
    unfold trS at this
    omega
theorem trs_len {on : List Str} : ∀ names : List Str, (trs on names).length = on.length ^ names.length := by
  have go : ∀ (names : List Str) (acc : List Anc), (names.foldl (trS on) acc).length = acc.length * on.length ^ names.length := fun names => by
    induction names with
    | nil => intro acc; simp
    | cons x names ih => intro acc; rw [List.foldl_cons, ih, trS_len, List.length_cons, Nat.pow_succ, Nat.mul_assoc, Nat.mul_comm on.length]
  intro names
  unfold trs
  rw [go]
  exact Nat.one_mul _
end DL.SK
namespace DL.SK
open PySem PySem.Spec PyProof.Rows L2
variable [TabC]
abbrev ancD (l : Anc) : D := .dic (mapD .str l)
/-! ### which are trees -/
def stp (t : Anc) (x : Str) : Str := if x = "clock" then "clock" else get t x
def itN (t : Anc) : Nat → Str → Str
  | 0, x => x
  | k + 1, x => itN t k (stp t x)
theorem itN_clock (t : Anc) : ∀ k, itN t k "clock" = "clock"
  | 0 => rfl
  | k + 1 => by rw [itN, show stp t "clock" = "clock" from if_pos rfl, itN_clock t k]
theorem itN_snoc (t : Anc) : ∀ k x, itN t (k + 1) x = stp t (itN t k x)
  | 0, x => rfl
  | k + 1, x => by rw [itN, itN_snoc t k (stp t x), itN]
def isTr (t : Anc) : Bool := (keys t).all fun x => decide (itN t (keys t).length x = "clock")
def dpN (t : Anc) : Nat → Str → Nat
  | 0, _ => 0
  | k + 1, x => if x = "clock" then 0 else 1 + dpN t k (stp t x)
theorem dpN_le (t : Anc) : ∀ k x, dpN t k x ≤ k
  | 0, _ => Nat.le_refl _
  | k + 1, x => by
    rw [dpN]
    split
    · exact Nat.zero_le _
    · have := dpN_le t k (stp t x); omega
theorem dpN_more (t : Anc) : ∀ k x, itN t k x = "clock" → dpN t (k + 1) x = dpN t k x
  | 0, x, h => by
    exact if_pos h
  | k + 1, x, h => by
    show (if x = "clock" then 0 else 1 + dpN t (k + 1) (stp t x)) = if x = "clock" then 0 else 1 + dpN t k (stp t x)
    by_cases e : x = "clock"
    · rw [if_pos e, if_pos e]
    · rw [if_neg e, if_neg e, dpN_more t k (stp t x) h]
theorem tree_iff {t : Anc} (hn : (keys t).Nodup) (hg : ∀ x ∈ keys t, Good x) (hv : ∀ p ∈ t, p.2 = "clock" ∨ p.2 ∈ keys t) (hl : t.length ≤ 100) : isTr t = true ↔ ∃ rk, Acy t rk := by
  have hk : (keys t).length = t.length := List.length_map _
  unfold isTr
  rw [List.all_eq_true]
  constructor
  · intro h
    obtain ⟨n, hn2⟩ : ∃ n, n = (keys t).length := ⟨_, rfl⟩
    rw [← hn2] at h
    refine ⟨fun x => dpN t n x - 1, hn, hg, fun x a e => ?_, fun x hx => ?_, hl⟩
    · have hx : x ∈ keys t := List.mem_map.mpr ⟨_, look_some e, rfl⟩
      have hxc := (hg x hx).nc
      have ha := hv _ (look_some e)
      refine ha.imp id fun hak => ⟨hak, ?_⟩
      have hac := (hg a hak).nc
      have h1 := of_decide_eq_true (h x hx)
      have h2 := of_decide_eq_true (h a hak)
      obtain ⟨m, rfl⟩ : ∃ m, n = m + 1 := ⟨n - 1, by have := List.length_pos_of_mem hx; omega⟩
      have es : stp t x = a := by unfold stp; rw [if_neg hxc]; exact get_of e
      rw [itN, es] at h1
      have e1 : dpN t (m + 1) x = 1 + dpN t (m + 1) a := by
        rw [dpN, if_neg hxc, es, dpN_more t m a h1]
      have e2 : 1 ≤ dpN t (m + 1) a := by rw [dpN, if_neg hac]; omega
      show dpN t (m + 1) a - 1 < dpN t (m + 1) x - 1
      omega
    · have := dpN_le t n x
      have := List.length_pos_of_mem hx
      show dpN t n x - 1 < t.length
      omega
  · rintro ⟨rk, A⟩ x hx
    have key : ∀ (k : Nat) (x : Str), (x = "clock" ∨ (x ∈ keys t ∧ rk x < k)) → itN t k x = "clock" := fun k => by
      induction k with
      | zero => exact fun x h => h.resolve_right fun z => by omega
      | succ k ih =>
        intro x h
        rcases h with rfl | ⟨h1, h2⟩
        · exact itN_clock t _
        · rw [itN]
          refine ih _ ?_
          have es : stp t x = get t x := if_neg (hg x h1).nc
          rw [es]
          exact (A.up x _ (look_get h1)).imp id fun z => ⟨z.1, by omega⟩
    rw [decide_eq_true_iff]
    refine key _ x (.inr ⟨hx, ?_⟩)
    rw [hk]
    exact A.bd x hx
theorem v_is_tree {t : Anc} (hg : ∀ x ∈ keys t, Good x) (hv : ∀ p ∈ t, p.2 = "clock" ∨ p.2 ∈ keys t) (hl : t.length ≤ 100) : f__law_is_tree [ancD t] = .ok (.bl (isTr t)) := by
  have okx : ∀ x : Str, (x = "clock" ∨ x ∈ keys t) → sOk x := fun x hx => hx.elim (fun z => z ▸ clock_ok) fun z => (hg x z).ok
  have stp_in : ∀ x : Str, (x = "clock" ∨ x ∈ keys t) → (stp t x = "clock" ∨ stp t x ∈ keys t) := fun x hx => by
    by_cases e : x = "clock"
    · exact .inl (if_pos e)
    · have h1 := hx.resolve_left e
      have es : stp t x = get t x := if_neg e
      rw [es]
      exact hv _ (look_some (look_get h1))
  have inner : ∀ (ds : List D) (x : Str) (x1 x3 : Option D), (x = "clock" ∨ x ∈ keys t) → ∃ y3, fForL (fgNm 3) b__law_is_tree_1 ds [some (ancD t), x1, some (.str x), x3] = .nx [some (ancD t), x1, some (.str (itN t ds.length x)), y3] := fun ds => by
    induction ds with
    | nil => exact fun x x1 x3 _ => ⟨x3, rfl⟩
    | cons d ds ih =>
      intro x x1 x3 hx
      obtain ⟨y3, h⟩ := ih (stp t x) x1 (some d) (stp_in x hx)
      refine ⟨y3, ?_⟩
      have b1 : b__law_is_tree_1 [some (ancD t), x1, some (.str x), some d] = .nx [some (ancD t), x1, some (.str (stp t x)), some d] := by
        refine setE ?_
        by_cases e : x = "clock"
        · have : stp t x = x := by unfold stp; rw [if_pos e, e]
          rw [this]
          exact iteF (binTE (x := .str x) (y := .str "clock") rfl rfl (by rw [dNe_str (okx x hx) clock_ok]; simp [e])) rfl
        · have : stp t x = get t x := if_neg e
          rw [this]
          exact iteT (binTE (x := .str x) (y := .str "clock") rfl rfl (by rw [dNe_str (okx x hx) clock_ok]; simp [e])) (binE rfl rfl (by rw [dIdx_map, look_get (hx.resolve_left e)]; rfl))
      show (match b__law_is_tree_1 [some (ancD t), x1, some (.str x), some d] with | .nx s2 => fForL _ _ _ s2 | .ct s2 => fForL _ _ _ s2 | .bk s2 => .nx s2 | o => o) = _
      rw [b1]
      exact h
  have it_in : ∀ (k : Nat) (x : Str), (x = "clock" ∨ x ∈ keys t) → (itN t k x = "clock" ∨ itN t k x ∈ keys t) := fun k => by
    induction k with
    | zero => exact fun x h => h
    | succ k ih => exact fun x h => ih _ (stp_in x h)
  have h := for_find (g := fgNm 1) (b := b__law_is_tree_2) D.str (fun s => ∃ y1 y2 y3 : Option D, s = [some (ancD t), y1, y2, y3]) (fun x => if itN t (keys t).length x = "clock" then none else some (.bl false)) (keys t) [some (ancD t), none, none, none] ⟨_, _, _, rfl⟩ (fun x hx s ⟨y1, y2, y3, es⟩ => by
    subst es
    refine ⟨_, rfl, ?_⟩
    obtain ⟨z3, hi⟩ := inner ((keys t).map .str) x (some (.str x)) y3 (.inr hx)
    rw [List.length_map] at hi
    have hf : fForD (fun s => (s[0]?).join) keysD (fgNm 3) b__law_is_tree_1 [some (ancD t), some (.str x), some (.str x), y3] = .nx [some (ancD t), some (.str x), some (.str (itN t (keys t).length x)), z3] := forDE (kvs := mapD .str t) rfl (by rw [keys_map]; exact hi)
    have hq : fBinT dNe (fVar 2) (fC (.str "clock")) [some (ancD t), some (.str x), some (.str (itN t (keys t).length x)), z3] = .ok (!(itN t (keys t).length x == "clock")) := binTE rfl rfl (dNe_str (okx _ (it_in _ x (.inr hx))) clock_ok)
    by_cases c : itN t (keys t).length x = "clock"
    · refine .inl ⟨if_pos c, _, seqN (setE rfl) (seqN hf (ifsF (hq.trans (by rw [c, beq_self_eq_true]; rfl)) rfl)), _, _, _, rfl⟩
    · refine .inr ⟨_, if_neg c, seqN (setE rfl) (seqN hf (ifsT (hq.trans (by rw [beq_eq_false_iff_ne.mpr c]; rfl)) (retE rfl)))⟩)
  rcases h with ⟨h1, s', h2, y1, y2, y3, rfl⟩ | ⟨d, h1, h2⟩
  · have : isTr t = true := by
      unfold isTr
      rw [List.all_eq_true]
      intro x hx
      have := List.findSome?_eq_none_iff.mp h1 x hx
      rw [decide_eq_true_iff]
      refine Classical.byContradiction fun c => ?_
      rw [if_neg c] at this
      cases this
    rw [this]
    exact runB_rt (seqN (forDE (kvs := mapD .str t) rfl (by rw [keys_map]; exact h2)) (retE rfl))
  · obtain ⟨x, hx, hd⟩ := List.exists_of_findSome?_eq_some h1
    have c : ¬ itN t (keys t).length x = "clock" := fun c => by rw [if_pos c] at hd; cases hd
    rw [if_neg c] at hd
    cases hd
    have : isTr t = false := by
      unfold isTr
      rw [Bool.eq_false_iff]
      intro z
      exact c (of_decide_eq_true (List.all_eq_true.mp z x hx))
    rw [this]
    exact runB_rt (seqR (forDE (kvs := mapD .str t) rfl (by rw [keys_map]; exact h2)))
/-! ### the law's trees -/
end DL.SK
namespace DL.SK
open PySem PySem.Spec PyProof.Rows L2
variable [TabC]
/-! ### the way up of a dish that hangs anew, maybe round and round -/
section
variable {l : Anc} {rk : Str → Nat}
theorem v_way_goL (A : PAcy l rk) {x a : Str} (hx : x ∉ keys l) (gx : Good x) (hac : a ≠ "clock") {x0 : Option D} : ∀ (k fuel : Nat) (here : Str) (found : List Str), k + 1 ≤ fuel → (here ≠ "clock" → rk here < k) → (here = "clock" ∨ Good here) → (∀ y ∈ found, Good y ∧ (here ≠ "clock" → rk here < rk y)) → (found = [] ∧ here = a ∨ a ∈ found) → found.length + k ≤ 900 →
    ∃ h', fWhileN (fAndT (fBinT dNe (fVar 3) (fC (.str "clock"))) (fBinT dNotIn (fVar 3) (fVar 2))) b_way_up_1 (fuel + 1) [some (.dic (mapD .str (l ++ [(x, a)]))), x0, some (txs found), some (.str here)] = .nx [some (.dic (mapD .str (l ++ [(x, a)]))), x0, some (txs (found ++ if here = "clock" then [] else here :: wayP l here)), some (.str h')] := by
  intro k
  induction k with
  | zero =>
    intro fuel here found hf hk hh hfo hfa hl
    have e : here = "clock" := Decidable.byContradiction fun z => by have := hk z; omega
    subst e
    refine ⟨"clock", ?_⟩
    rw [fWhileN, andTF (binTE (x := .str "clock") (y := .str "clock") rfl rfl (dNe_str clock_ok clock_ok))]
    rw [if_pos rfl, List.append_nil]
    rfl
  | succ k ih =>
    intro fuel here found hf hk hh hfo hfa hl
    by_cases e : here = "clock"
    · subst e
      refine ⟨"clock", ?_⟩
      rw [fWhileN, andTF (binTE (x := .str "clock") (y := .str "clock") rfl rfl (dNe_str clock_ok clock_ok))]
      rw [if_pos rfl, List.append_nil]
      rfl
    · have hgo := hh.resolve_left e
      have hr := hk e
      have ho : sOk here := hgo.ok
      have hni : here ∉ found := fun z => by have := (hfo here z).2 e; omega
      obtain ⟨fu, rfl⟩ : ∃ fu, fuel = fu + 1 := ⟨fuel - 1, by omega⟩
      have t1 : fAndT (fBinT dNe (fVar 3) (fC (.str "clock"))) (fBinT dNotIn (fVar 3) (fVar 2)) [some (.dic (mapD .str (l ++ [(x, a)]))), x0, some (txs found), some (.str here)] = .ok true := by
        refine andTT (binTE (x := .str here) (y := .str "clock") rfl rfl ?_) (binTE (x := .str here) (y := txs found) rfl rfl ?_)
        · rw [dNe_str ho clock_ok]; simp [e]
        · rw [dNotIn_strs ho fun y hy => (hfo y hy).1.ok]; simp [hni]
      obtain ⟨b, hb⟩ : ∃ b, b = ((l ++ [(x, a)]).lookup here).getD "clock" := ⟨_, rfl⟩
      have b1 : b_way_up_1 [some (.dic (mapD .str (l ++ [(x, a)]))), x0, some (txs found), some (.str here)] = .nx [some (.dic (mapD .str (l ++ [(x, a)]))), x0, some (txs (found ++ [here])), some (.str b)] := by
        refine seqN (appE (ds := found.map .str) rfl rfl (by rw [List.length_map]; exact lim_of (by omega))) ((setE (dgetE rfl rfl rfl rfl)).trans ?_)
        rw [lookK_map, show txs (found ++ [here]) = D.lst (found.map .str ++ [.str here]) by rw [txs, List.map_append]; rfl, hb]
        cases (l ++ [(x, a)]).lookup here <;> rfl
      have hfa2 : a ∈ found ++ [here] := by
        rcases hfa with ⟨h1, h2⟩ | h
        · rw [h2]; exact List.mem_append_right _ (List.mem_singleton.mpr rfl)
        · exact List.mem_append_left _ h
      by_cases hxh : here = x
      · -- round: the next one is the anchor, which is found
        have hb2 : b = a := by rw [hb, look_more hx, if_pos hxh]; rfl
        have hw : wayP l here = [] := wayP_none (look_none (hxh ▸ hx))
        have hga : Good a := by
          rcases hfa with ⟨h1, h2⟩ | h
          · rw [← h2]; exact hgo
          · exact (hfo a h).1
        refine ⟨a, ?_⟩
        rw [fWhileN, t1]
        show (match b_way_up_1 _ with | .nx s2 => fWhileN _ _ (fu + 1) s2 | .ct s2 => fWhileN _ _ (fu + 1) s2 | .bk s2 => .nx s2 | o => o) = _
        rw [b1]
        show fWhileN _ _ (fu + 1) _ = _
        rw [hb2, if_neg e, hw]
        rw [fWhileN, andTT (r := .ok false) (binTE (x := .str a) (y := .str "clock") rfl rfl (by rw [dNe_str hga.ok clock_ok]; simp [hac])) (binTE (x := .str a) (y := txs (found ++ [here])) rfl rfl (by
          rw [dNotIn_strs hga.ok fun y hy => ?_]
          · simp only [hfa2, decide_true, Bool.not_true]
          · rcases List.mem_append.mp hy with z | z
            · exact (hfo y z).1.ok
            · rw [List.mem_singleton.mp z]; exact ho))]
        rfl
      · have hlk : (l ++ [(x, a)]).lookup here = l.lookup here := by rw [look_more hx, if_neg hxh]
        rw [hlk] at hb
        have hbr : b = "clock" ∨ (Good b ∧ rk b < rk here ∧ l.lookup here = some b) := by
          cases el : l.lookup here with
          | none => rw [el] at hb; exact .inl hb
          | some a =>
            rw [el] at hb
            have hb : b = a := hb
            rw [hb]
            exact (A.up here a el).imp id fun z => ⟨z.1, z.2, rfl⟩
        obtain ⟨h', eh⟩ := ih fu b (found ++ [here]) (by omega) (fun z => by have := (hbr.resolve_left z).2.1; omega) (hbr.imp id (·.1)) (fun y hy => by
            rcases List.mem_append.mp hy with z | z
            · refine ⟨(hfo y z).1, fun na => ?_⟩
              have := (hfo y z).2 e
              have := (hbr.resolve_left na).2.1
              omega
            · have z := List.mem_singleton.mp z
              subst z
              exact ⟨hgo, fun na => (hbr.resolve_left na).2.1⟩) (.inr hfa2) (by rw [List.length_append, List.length_singleton]; omega)
        refine ⟨h', ?_⟩
        rw [fWhileN, t1]
        show (match b_way_up_1 _ with | .nx s2 => fWhileN _ _ (fu + 1) s2 | .ct s2 => fWhileN _ _ (fu + 1) s2 | .bk s2 => .nx s2 | o => o) = _
        rw [b1]
        show fWhileN _ _ (fu + 1) _ = _
        rw [eh, if_neg e, List.append_assoc]
        by_cases ca : b = "clock"
        · rw [if_pos ca]
          have : wayP l here = [] := by
            cases el : l.lookup here with
            | none => exact wayP_none el
            | some a =>
              rw [el] at hb
              exact wayP_clock (by rw [el]; exact congrArg some (hb.symm.trans ca))
          rw [this]
          rfl
        · rw [if_neg ca, wayP_up A (hbr.resolve_left ca).2.2 ca]
          rfl
theorem v_way_upL (A : PAcy l rk) {x a : Str} (hx : x ∉ keys l) (gx : Good x) (ha : a = "clock" ∨ Good a) : f_way_up [.dic (mapD .str (l ++ [(x, a)])), .str x] = .ok (txs (if a = "clock" then [] else a :: wayP l a)) := by
  have hlk : (l ++ [(x, a)]).lookup x = some a := by rw [look_more hx, if_pos rfl]
  have e : ∃ h', fWhileN (fAndT (fBinT dNe (fVar 3) (fC (.str "clock"))) (fBinT dNotIn (fVar 3) (fVar 2))) b_way_up_1 (999999 + 1) [some (.dic (mapD .str (l ++ [(x, a)]))), some (.str x), some (txs []), some (.str a)] = .nx [some (.dic (mapD .str (l ++ [(x, a)]))), some (.str x), some (txs ([] ++ if a = "clock" then [] else a :: wayP l a)), some (.str h')] := by
    by_cases c : a = "clock"
    · subst c
      refine ⟨"clock", ?_⟩
      rw [fWhileN, andTF (binTE (x := .str "clock") (y := .str "clock") rfl rfl (dNe_str clock_ok clock_ok))]
      rw [if_pos rfl, List.append_nil]
      rfl
    · exact v_way_goL A hx gx c 256 999999 a [] (by omega) (fun z => rk_lt A a) ha (fun y hy => by cases hy) (.inl ⟨rfl, rfl⟩) (by simp)
  obtain ⟨h', e⟩ := e
  refine runB_rt (seqN (setFE (show 2 < 4 by decide) rfl) (seqN (s' := [some (.dic (mapD .str (l ++ [(x, a)]))), some (.str x), some (txs []), some (.str a)]) ?_ (seqN (s' := _) e ((retE rfl).trans ?_))))
  · refine (setE (dgetE rfl rfl rfl rfl)).trans ?_
    rw [lookK_map, hlk]
    rfl
  · show SO.rt (txs ([] ++ _)) = _
    rw [List.nil_append]
/-! ### one turn of the loop over what a dish may hang on -/
def kids (some : List Str) (l : Anc) (x : Str) : List Anc := (chs l some x).map fun a => l ++ [(x, a)]
theorem kid_loop (A : PAcy l rk) {x : Str} (hx : x ∉ keys l) (gx : Good x) {s0 s1 s2 : Option D} : ∀ (as : List Str) (wt : List D) (x6 x7 : Option D), (∀ a ∈ as, a = "clock" ∨ Good a) → wt.length + as.length ≤ 90000 →
    ∃ y6 y7, fForL (fgNm 6) b_hangings_1 (as.map .str) [s0, s1, s2, some (.lst wt), some (ancD l), some (.str x), x6, x7] = .nx [s0, s1, s2, some (.lst (wt ++ ((as.filter fun a : Str => decide (a = "clock") || (decide (a ≠ x) && decide (x ∉ wayP l a))).map fun a => ancD (l ++ [(x, a)])))), some (ancD l), some (.str x), y6, y7]
  | [], wt, x6, x7, _, _ => ⟨x6, x7, by rw [List.filter_nil, List.map_nil (f := fun a => ancD (l ++ [(x, a)])), List.append_nil]; rfl⟩
  | a :: as, wt, x6, x7, hg, hl => by
    have eP : putD (mapD D.str l) (.inr x) (.str a) = mapD D.str (l ++ [(x, a)]) := put_new (f := D.str) (a := a) hx
    have hga := hg a List.mem_cons_self
    have hll := A.len
    obtain ⟨c, hc⟩ : ∃ c, c = (decide (a = "clock") || (decide (a ≠ x) && decide (x ∉ wayP l a))) := ⟨_, rfl⟩
    have e7 : fSet 7 (fDsp1 (fVar 4) (fVar 5) (fVar 6)) [s0, s1, s2, some (.lst wt), some (ancD l), some (.str x), some (.str a), x7] = .nx [s0, s1, s2, some (.lst wt), some (ancD l), some (.str x), some (.str a), some (ancD (l ++ [(x, a)]))] :=
      setE ((dsp1E (kvs := mapD D.str l) (kk := .inr x) (d := .str a) rfl (by unfold mapD; rw [List.length_map]; unfold LIM; omega) rfl rfl rfl).trans (by rw [eP]))
    have wok : ∀ y ∈ (if a = "clock" then [] else a :: wayP l a), sOk y := fun y hy => by
      split at hy
      · cases hy
      · rename_i z
        rcases List.mem_cons.mp hy with rfl | hy
        · exact (hga.resolve_left z).ok
        · exact (wayP_mem A (rk a) a (Nat.le_refl _) y hy).1.ok
    have t : fBinT dNotIn (fVar 5) (fCall 2 f_way_up [] (fCons (fVar 7) (fCons (fVar 5) fNil))) [s0, s1, s2, some (.lst wt), some (ancD l), some (.str x), some (.str a), some (ancD (l ++ [(x, a)]))] = .ok c := by
      refine binTE (x := .str x) (y := txs (if a = "clock" then [] else a :: wayP l a)) rfl (callE (ds := [ancD (l ++ [(x, a)]), .str x]) rfl rfl (v_way_upL A hx gx hga)) ?_
      rw [dNotIn_strs gx.ok wok, hc]
      by_cases z : a = "clock"
      · simp [z]
      · by_cases z2 : x = a
        · subst z2; simp [z]
        · have z3 : ¬ a = x := fun q => z2 q.symm
          by_cases z4 : x ∈ wayP l a <;> simp [z, z2, z3, z4]
    cases hcb : c with
    | false =>
      rw [hcb] at t hc
      obtain ⟨y6, y7, e⟩ := kid_loop A hx gx (s0 := s0) (s1 := s1) (s2 := s2) as wt (some (.str a)) (some (ancD (l ++ [(x, a)]))) (fun b hb => hg b (List.mem_cons_of_mem _ hb)) (by rw [List.length_cons] at hl; omega)
      refine ⟨y6, y7, ?_⟩
      rw [List.filter_cons, ← hc, if_neg (by decide), ← e]
      show (match b_hangings_1 [s0, s1, s2, some (.lst wt), some (ancD l), some (.str x), some (.str a), x7] with | .nx s2 => fForL _ _ _ s2 | .ct s2 => fForL _ _ _ s2 | .bk s2 => .nx s2 | o => o) = _
      rw [show b_hangings_1 [s0, s1, s2, some (.lst wt), some (ancD l), some (.str x), some (.str a), x7] = _ from seqN e7 (ifsF t rfl)]
      rfl
    | true =>
      rw [hcb] at t hc
      obtain ⟨y6, y7, e⟩ := kid_loop A hx gx (s0 := s0) (s1 := s1) (s2 := s2) as (wt ++ [ancD (l ++ [(x, a)])]) (some (.str a)) (some (ancD (l ++ [(x, a)]))) (fun b hb => hg b (List.mem_cons_of_mem _ hb)) (by rw [List.length_append, List.length_singleton]; rw [List.length_cons] at hl; omega)
      refine ⟨y6, y7, ?_⟩
      rw [List.filter_cons, ← hc, if_pos rfl, List.map_cons]
      rw [List.append_assoc] at e
      refine Eq.trans ?_ e
      show (match b_hangings_1 [s0, s1, s2, some (.lst wt), some (ancD l), some (.str x), some (.str a), x7] with | .nx s2 => fForL _ _ _ s2 | .ct s2 => fForL _ _ _ s2 | .bk s2 => .nx s2 | o => o) = _
      rw [show b_hangings_1 [s0, s1, s2, some (.lst wt), some (ancD l), some (.str x), some (.str a), x7] = _ from seqN e7 (ifsT t (appE (ds := wt) rfl rfl (by unfold LIM; omega)))]
      rfl
theorem kid_all (A : PAcy l rk) {x : Str} (hx : x ∉ keys l) (gx : Good x) {some0 : List Str} (hg : ∀ a ∈ some0, Good a) {s0 s1 s2 : Option D} (wt : List D) (x6 x7 : Option D) (hl : wt.length + (some0.length + 1) ≤ 90000) :
    ∃ y6 y7, fForL (fgNm 6) b_hangings_1 ((("clock" : Str) :: some0).map .str) [s0, s1, s2, some (.lst wt), some (ancD l), some (.str x), x6, x7] = .nx [s0, s1, s2, some (.lst (wt ++ (kids some0 l x).map ancD)), some (ancD l), some (.str x), y6, y7] := by
  obtain ⟨y6, y7, e⟩ := kid_loop A hx gx (s0 := s0) (s1 := s1) (s2 := s2) (("clock" : Str) :: some0) wt x6 x7 (fun a ha => (List.mem_cons.mp ha).imp id (hg a)) (by rw [List.length_cons]; omega)
  refine ⟨y6, y7, e.trans ?_⟩
  have : (("clock" : Str) :: some0).filter (fun a : Str => decide (a = "clock") || (decide (a ≠ x) && decide (x ∉ wayP l a))) = chs l some0 x := by
    unfold chs
    rw [List.filter_cons, if_pos (by simp)]
    congr 1
    refine List.filter_congr fun a ha => ?_
    have : a ≠ "clock" := (hg a ha).nc
    simp [this]
  rw [this]
  unfold kids
  rw [List.map_map]
  rfl
end
end DL.SK
namespace DL.SK
open PySem PySem.Spec PyProof.Rows L2 GF
variable [TabC]
/-! ### what the generator hangings yields, in its order -/
def hgs (ns some0 : List Str) : Nat → Anc → List Anc
  | 0, l => [l]
  | k + 1, l => (kids some0 l (ns.getD l.length "")).reverse.flatMap (hgs ns some0 k)
def bnd (c : Nat) : Nat → Nat
  | 0 => 1
  | k + 1 => 1 + c * bnd c k
theorem bnd_pos (c : Nat) : ∀ k, 1 ≤ bnd c k
  | 0 => Nat.le_refl 1
  | k + 1 => Nat.le_add_right 1 _
theorem bnd_le {c : Nat} (hc : 1 ≤ c) : ∀ k, bnd c k ≤ (k + 1) * c ^ k
  | 0 => by unfold bnd; simp
  | k + 1 => by
    unfold bnd
    have ih := Nat.mul_le_mul_left c (bnd_le hc k)
    have h1 : 1 ≤ c ^ (k + 1) := Nat.one_le_pow _ _ hc
    have h2 : c * ((k + 1) * c ^ k) = (k + 1) * c ^ (k + 1) := by rw [Nat.pow_succ, Nat.mul_left_comm, Nat.mul_comm (c ^ k) c]
    rw [h2] at ih
    rw [Nat.succ_mul]
    omega
def pre (xs : List D) (r : List D × SO) : List D × SO := (xs ++ r.1, r.2)
theorem pre_pre (xs ys : List D) (r : List D × SO) : pre xs (pre ys r) = pre (xs ++ ys) r := by unfold pre; rw [List.append_assoc]
theorem pre_nil (r : List D × SO) : pre [] r = r := rfl
theorem ySeqE {a b : FGS} {s s1 : Ev} {xs ys : List D} {o : SO} (h : a s = (xs, .nx s1)) (h2 : b s1 = (ys, o)) : ySeq a b s = (xs ++ ys, o) := by
  unfold ySeq onNx
  rw [h]
  show (xs ++ (b s1).1, (b s1).2) = _
  rw [h2]
theorem yPlE {f : FS} {s : Ev} {o : SO} (h : f s = o) : yPl f s = ([], o) := by unfold yPl; rw [h]
theorem yIfT {t : FM Bool} {a b : FGS} {s : Ev} {r : List D × SO} (h : t s = .ok true) (h2 : a s = r) : yIf t a b s = r := by unfold yIf; rw [h]; exact h2
theorem yIfF {t : FM Bool} {a b : FGS} {s : Ev} {r : List D × SO} (h : t s = .ok false) (h2 : b s = r) : yIf t a b s = r := by unfold yIf; rw [h]; exact h2
theorem yYieldE {m : FM D} {s : Ev} {d : D} (h : m s = .ok d) : yYield m s = ([d], .nx s) := by unfold yYield; rw [h]
theorem setPopE {j i : Nat} {s : Ev} {ds : List D} {d : D} (h : s[i]? = some (some (.lst (ds ++ [d])))) : fSetPop j i s = .nx ((s.set i (some (.lst ds))).set j (some d)) := by
  unfold fSetPop
  rw [h]
  dsimp only
  rw [List.getLast?_concat]
  dsimp only
  rw [List.dropLast_concat]
theorem yWhileT {t : FM Bool} {b : FGS} {k : Nat} {s s1 : Ev} {xs : List D} (h : t s = .ok true) (h2 : b s = (xs, .nx s1)) : yWhileN t b (k + 1) s = pre xs (yWhileN t b k s1) := by
  rw [yWhileN]
  dsimp only
  rw [h]
  dsimp only
  rw [h2]
  rfl
theorem yWhileF {t : FM Bool} {b : FGS} {k : Nat} {s : Ev} (h : t s = .ok false) : yWhileN t b (k + 1) s = ([], .nx s) := by
  rw [yWhileN]
  dsimp only
  rw [h]
abbrev hT : FM Bool := fBinT dGt (fBlt dLen (fCons (fVar 3) fNil)) (fC (.int 0))
abbrev hB : FGS := (GF.ySeq (GF.yPl (fSetPop 4 3)) (GF.ySeq (GF.yIf (fBinT dEq (fBlt dLen (fCons (fVar 4) fNil)) (fBlt dLen (fCons (fVar 0) fNil))) (GF.ySeq (GF.yYield (fMake 2 f_Hanging___init__ [] (fCons (fVar 4) fNil))) GF.yNil) (GF.ySeq (GF.yPl (fSet 5 (fBin dIdx (fVar 0) (fBlt dLen (fCons (fVar 4) fNil))))) (GF.ySeq (GF.yPl (fFor (fIter (fBin dAdd (fLst (fCons (fC (.str "clock")) fNil)) (fVar 2))) (fgNm 6) (b_hangings_1))) GF.yNil))) GF.yNil))
section
variable {ns some0 : List Str} {L : D}
structure Part (ns : List Str) (l : Anc) : Prop where
  acy : ∃ rk, PAcy l rk
  ks : keys l = ns.take l.length
structure Nms (ns some0 : List Str) : Prop where
  good : ∀ x ∈ ns, Good x
  nd : ns.Nodup
  len : ns.length ≤ 7
  sub : ∀ a ∈ some0, a ∈ ns
theorem Part.next {l : Anc} (N : Nms ns some0) (P : Part ns l) (h : l.length < ns.length) : (ns.getD l.length "" ∉ keys l) ∧ Good (ns.getD l.length "") ∧ ns[l.length]? = some (ns.getD l.length "") := by
  have e : ns[l.length]? = some (ns.getD l.length "") := by rw [List.getD_eq_getElem?_getD, List.getElem?_eq_getElem h]; rfl
  refine ⟨fun z => ?_, N.good _ (List.mem_of_getElem? e), e⟩
  rw [P.ks] at z
  obtain ⟨i, hi, ei⟩ := List.getElem_of_mem z
  rw [List.length_take] at hi
  rw [List.getElem_take] at ei
  rw [List.getElem?_eq_getElem h] at e
  exact (List.pairwise_iff_getElem.mp N.nd) i l.length (by omega) h (by omega) (ei.trans (Option.some.inj e).symm)
theorem Part.kid {l t : Anc} (N : Nms ns some0) (P : Part ns l) (h : l.length < ns.length) (ht : t ∈ kids some0 l (ns.getD l.length "")) : Part ns t ∧ t.length = l.length + 1 := by
  obtain ⟨h1, h2, h3⟩ := P.next N h
  obtain ⟨rk, A⟩ := P.acy
  obtain ⟨a, ha, rfl⟩ := List.mem_map.mp ht
  have hl := A.len
  have hn := N.len
  refine ⟨⟨more_acy A h2 h1 ?_ (by omega), ?_⟩, by rw [List.length_append]; rfl⟩
  · rcases List.mem_cons.mp ha with rfl | ha
    · exact .inl rfl
    · obtain ⟨k1, k2⟩ := List.mem_filter.mp ha
      rw [Bool.and_eq_true, decide_eq_true_iff, decide_eq_true_iff] at k2
      exact .inr ⟨N.good _ (N.sub a k1), k2.1, k2.2⟩
  · rw [List.length_append, List.length_singleton, List.take_succ, h3]
    unfold keys
    rw [List.map_append]
    have := P.ks
    unfold keys at this
    rw [this]
    rfl
theorem kids_len (l : Anc) (x : Str) : (kids some0 l x).length ≤ some0.length + 1 := by
  unfold kids chs
  rw [List.length_map, List.length_cons]
  have := List.length_filter_le (fun k => decide (k ≠ x) && decide (x ∉ wayP l k)) some0
  omega
theorem hgs_part (N : Nms ns some0) : ∀ (k : Nat) (l : Anc), Part ns l → l.length + k = ns.length → (∀ p ∈ l, p.2 = "clock" ∨ p.2 ∈ some0) → ∀ t ∈ hgs ns some0 k l, Part ns t ∧ t.length = ns.length ∧ ∀ p ∈ t, p.2 = "clock" ∨ p.2 ∈ some0
  | 0, l, P, h, hv, t, ht => by
    rw [hgs, List.mem_singleton] at ht
    subst ht
    exact ⟨P, by omega, hv⟩
  | k + 1, l, P, h, hv, t, ht => by
    rw [hgs] at ht
    obtain ⟨u, hu, ht⟩ := List.mem_flatMap.mp ht
    have hu := List.mem_reverse.mp hu
    obtain ⟨P2, h2⟩ := P.kid N (by omega) hu
    refine hgs_part N k u P2 (by omega) (fun p hp => ?_) t ht
    obtain ⟨a, ha, rfl⟩ := List.mem_map.mp hu
    rcases List.mem_append.mp hp with z | z
    · exact hv p z
    · rw [List.mem_singleton.mp z]
      rcases List.mem_cons.mp ha with rfl | ha
      · exact .inl rfl
      · exact .inr (List.mem_filter.mp ha).1
theorem hg_test {st : List D} {d : D} {s0 s1 s2 x4 x5 x6 x7 : Option D} : hT [s0, s1, s2, some (.lst (st ++ [d])), x4, x5, x6, x7] = .ok true := by
  refine binTE (x := .int ((st ++ [d]).length : Nat)) (y := .int 0) (bltE (consE rfl rfl) rfl) rfl ?_
  show some (D.bl (decide ((0 : Int) < (((st ++ [d]).length : Nat) : Int)))) = _
  rw [List.length_append, List.length_singleton]
  rw [decide_eq_true (by omega)]
theorem hg_end {s0 s1 s2 x4 x5 x6 x7 : Option D} : hT [s0, s1, s2, some (.lst []), x4, x5, x6, x7] = .ok false := binTE (x := .int (([] : List D).length : Nat)) (y := .int 0) (bltE (consE rfl rfl) rfl) rfl rfl
def nod (ns some0 : List Str) : Nat → Anc → Nat
  | 0, _ => 1
  | k + 1, l => 1 + ((kids some0 l (ns.getD l.length "")).reverse.map (nod ns some0 k)).sum
theorem sum_le_mul {α : Type} {f : α → Nat} {b : Nat} (h : ∀ x, f x ≤ b) : ∀ xs : List α, (xs.map f).sum ≤ xs.length * b
  | [] => Nat.zero_le _
  | x :: xs => by
    rw [List.map_cons, List.sum_cons, List.length_cons, Nat.add_mul, Nat.one_mul]
    have := h x
    have := sum_le_mul h xs
    omega
theorem nod_le : ∀ (k : Nat) (l : Anc), nod ns some0 k l ≤ bnd (some0.length + 1) k
  | 0, l => Nat.le_refl 1
  | k + 1, l => by
    rw [nod, bnd]
    have h1 := sum_le_mul (nod_le k) (kids some0 l (ns.getD l.length "")).reverse
    rw [List.length_reverse] at h1
    have h2 := Nat.mul_le_mul_right (bnd (some0.length + 1) k) (kids_len (some0 := some0) l (ns.getD l.length ""))
    omega
end
end DL.SK
namespace DL.SK
open PySem PySem.Spec PyProof.Rows L2 GF
variable [TabC]
section
variable {ns looks : List Str}
theorem mem_hgs_go {some0 : List Str} (N : Nms ns some0) {t : Anc} {rk : Str → Nat} (A : Acy t rk) (hk : keys t = ns) (hv : ∀ p ∈ t, p.2 = "clock" ∨ p.2 ∈ some0) : ∀ (k : Nat) (l : Anc), Part ns l → l.length + k = ns.length → l = t.take l.length → t ∈ hgs ns some0 k l := by
  have htl : t.length = ns.length := by
    have := congrArg List.length hk
    unfold keys at this
    rw [List.length_map] at this
    exact this
  intro k
  induction k with
  | zero =>
    intro l P h e
    rw [hgs, List.mem_singleton]
    have : t.length = l.length := by omega
    rw [← this, List.take_length] at e
    exact e.symm
  | succ k ih =>
    intro l P h e
    have hlt : l.length < t.length := by omega
    obtain ⟨h1, h2, h3⟩ := P.next N (by omega)
    obtain ⟨rk0, P0⟩ := P.acy
    obtain ⟨q, hq⟩ : ∃ q, t[l.length]? = some q := ⟨_, List.getElem?_eq_getElem hlt⟩
    have hqt : q ∈ t := List.mem_of_getElem? hq
    have hx : q.1 = ns.getD l.length "" := by
      have : ns[l.length]? = some q.1 := by rw [← hk]; unfold keys; rw [List.getElem?_map, hq]; rfl
      rw [this] at h3
      exact Option.some.inj h3
    have ext : ∀ x a, l.lookup x = some a → t.lookup x = some a := fun x a el => by
      have hm := look_some el
      rw [e] at hm
      exact look_of A.nd (List.mem_of_mem_take hm)
    have elx : t.lookup q.1 = some q.2 := look_of A.nd hqt
    have hch : q.2 ∈ chs l some0 q.1 := by
      rcases hv q hqt with z | z
      · rw [z]; exact List.mem_cons_self
      · refine List.mem_cons_of_mem _ (List.mem_filter.mpr ⟨z, ?_⟩)
        rw [Bool.and_eq_true, decide_eq_true_iff, decide_eq_true_iff]
        rcases A.up q.1 q.2 elx with z2 | ⟨z2, z3⟩
        · rw [z2]
          refine ⟨fun w => ?_, fun w => ?_⟩
          · rw [hx] at w; exact h2.nc w.symm
          · rw [wayP_none (look_clock P0)] at w
            cases w
        · refine ⟨fun w => by rw [w] at z3; omega, fun w => ?_⟩
          have := chain_rk A q.2 z2 q.1 (wayP_sub P0 A ext q.2 z2 q.1 w)
          omega
    rw [hx] at hch
    rw [hgs]
    have hm : l ++ [(ns.getD l.length "", q.2)] ∈ kids some0 l (ns.getD l.length "") := List.mem_map.mpr ⟨q.2, hch, rfl⟩
    refine List.mem_flatMap.mpr ⟨_, List.mem_reverse.mpr hm, ?_⟩
    obtain ⟨P2, hl2⟩ := P.kid N (by omega) hm
    refine ih _ P2 (by omega) ?_
    rw [hl2, List.take_succ, ← e, hq, ← hx]
    rfl
theorem part_nil : Part ns [] := ⟨⟨_, nil_acy⟩, rfl⟩
/-- the program's hangings are the law's trees -/
theorem mem_hgs (hg : ∀ x ∈ ns, Good x) (hn : ns.Nodup) (hl : ns.length ≤ 7) (hk : ∀ x ∈ looks, x ∈ ns) {t : Anc} : t ∈ hgs ns (ns.filter fun x => decide (x ∈ looks)) ns.length [] ↔ t ∈ (trs (("clock" : Str) :: looks) ns).filter isTr := by
  have N : Nms ns (ns.filter fun x => decide (x ∈ looks)) := ⟨hg, hn, hl, fun a ha => (List.mem_filter.mp ha).1⟩
  have hs : ∀ a, a ∈ (ns.filter fun x => decide (x ∈ looks)) ↔ a ∈ looks := fun a => by
    rw [List.mem_filter, decide_eq_true_iff]
    exact ⟨fun h => h.2, fun h => ⟨hk a h, h⟩⟩
  rw [List.mem_filter, mem_trs]
  constructor
  · intro h
    obtain ⟨P, h2, h3⟩ := hgs_part N ns.length [] part_nil (by simp) (fun p hp => nomatch hp) t h
    have hkt : keys t = ns := by rw [P.ks, h2, List.take_length]
    refine ⟨⟨hkt, fun p hp => List.mem_cons.mpr ((h3 p hp).imp id (hs _).mp)⟩, ?_⟩
    obtain ⟨rk, A⟩ := P.acy
    refine (tree_iff A.nd A.good (fun p hp => (h3 p hp).imp id fun z => by rw [hkt]; exact N.sub _ z) (by omega)).mpr (acy_of (rk := rk) A.nd A.good (fun x a e => ?_) (by omega))
    rcases A.up x a e with z | z
    · exact .inl z
    · exact .inr ⟨by rw [hkt]; exact N.sub _ ((h3 _ (look_some e)).resolve_left z.1.nc), z.2⟩
  · rintro ⟨⟨h1, h2⟩, h3⟩
    have hlt : t.length = ns.length := by rw [← h1]; exact (List.length_map _).symm
    obtain ⟨rk, A⟩ := (tree_iff (h1.symm ▸ hn) (fun x hx => hg x (h1 ▸ hx)) (fun p hp => (List.mem_cons.mp (h2 p hp)).imp id fun z => h1.symm ▸ hk _ z) (by omega)).mp h3
    exact mem_hgs_go N A h1 (fun p hp => (List.mem_cons.mp (h2 p hp)).imp id (hs _).mpr) ns.length [] part_nil (by simp) rfl
end
end DL.SK
namespace DL.SK
open PySem PySem.Spec PyProof.Rows L2 GF
variable [TabC]
/-! ### hangings of lists and tuples, looks that are anything -/
theorem iter_row (tp : Bool) (ds : List D) : dIter (rowD tp ds) = some ds := by cases tp <;> rfl
theorem idx_row {tp : Bool} {ns : List Str} {k : Nat} {x : Str} (h : ns[k]? = some x) : dIdx (rowD tp (ns.map .str)) (.int (k : Nat)) = some (.str x) := by
  cases tp
  · show dIdx (.lst (ns.map .str)) _ = _
    rw [dIdx_lst, List.getElem?_map, h]
    rfl
  · show dIdx (.tup (ns.map .str)) _ = _
    rw [dIdx_tup, List.getElem?_map, h]
    rfl
theorem in_row {tp : Bool} {x : Str} {looks : List Str} (hx : sOk x) (h : ∀ y ∈ looks, sOk y) : dIn (.str x) (rowD tp (looks.map .str)) = some (.bl (decide (x ∈ looks))) := by
  cases tp
  · exact dIn_strs hx h
  · show (if (flatD (.str x) && (looks.map D.str).all flatD) = true then some ((looks.map D.str).any fun y => pyEq y (.str x)) else none).map D.bl = _
    have e : (looks.map D.str).all flatD = true := by
      rw [List.all_eq_true]
      intro d hd
      obtain ⟨y, _, rfl⟩ := List.mem_map.mp hd
      rfl
    rw [e, any_strs]
    rfl
section
variable {ns some0 : List Str} {L : D} {tp tq : Bool}
theorem hg_turnT (N : Nms ns some0) {l : Anc} (P : Part ns l) {st : List D} {x4 x5 x6 x7 : Option D} (hst : st.length + some0.length + 1 ≤ 90000) (hv : ∀ p ∈ l, p.2 = "clock" ∨ p.2 ∈ ns) :
    (l.length = ns.length → ∃ y4 y5 y6 y7, hB [some (rowD tp (ns.map .str)), some L, some (txs some0), some (.lst (st ++ [ancD l])), x4, x5, x6, x7] = ([hangD (sortK l)], .nx [some (rowD tp (ns.map .str)), some L, some (txs some0), some (.lst st), y4, y5, y6, y7])) ∧
    (l.length < ns.length → ∃ y4 y5 y6 y7, hB [some (rowD tp (ns.map .str)), some L, some (txs some0), some (.lst (st ++ [ancD l])), x4, x5, x6, x7] = ([], .nx [some (rowD tp (ns.map .str)), some L, some (txs some0), some (.lst (st ++ (kids some0 l (ns.getD l.length "")).map ancD)), y4, y5, y6, y7])) := by
  obtain ⟨rk, A⟩ := P.acy
  have hl8 := A.len
  have e1 : fSetPop 4 3 [some (rowD tp (ns.map .str)), some L, some (txs some0), some (.lst (st ++ [ancD l])), x4, x5, x6, x7] = .nx [some (rowD tp (ns.map .str)), some L, some (txs some0), some (.lst st), some (ancD l), x5, x6, x7] := setPopE (i := 3) (j := 4) rfl
  have t : fBinT dEq (fBlt dLen (fCons (fVar 4) fNil)) (fBlt dLen (fCons (fVar 0) fNil)) [some (rowD tp (ns.map .str)), some L, some (txs some0), some (.lst st), some (ancD l), x5, x6, x7] = .ok (((l.length : Nat) : Int) == ((ns.length : Nat) : Int)) := by
    refine binTE (x := .int (l.length : Nat)) (y := .int (ns.length : Nat)) (bltE (consE rfl rfl) ?_) (bltE (consE rfl rfl) ?_) dEq_int
    · show some (D.int (mapD D.str l).length) = _
      unfold mapD; rw [List.length_map]
    · cases tp <;> (show some (D.int (ns.map D.str).length) = _; rw [List.length_map])
  refine ⟨fun h => ⟨some (ancD l), x5, x6, x7, ?_⟩, fun h => ?_⟩
  · have hacy : ∃ rk2, Acy l rk2 := by
      have hk : keys l = ns := by rw [P.ks, h, List.take_length]
      refine acy_of (rk := rk) A.nd A.good (fun x a e => ?_) (by omega)
      rcases A.up x a e with z | z
      · exact .inl z
      · exact .inr ⟨hk.symm ▸ (hv _ (look_some e)).resolve_left z.1.nc, z.2⟩
    obtain ⟨rk2, A2⟩ := hacy
    rw [show (((l.length : Nat) : Int) == ((ns.length : Nat) : Int)) = true by rw [h]; simp] at t
    exact ySeqE (xs := []) (yPlE e1) (ySeqE (ys := []) (yIfT t (ySeqE (xs := [_]) (ys := []) (yYieldE (makeE (ds := [ancD l]) (consE rfl rfl) rfl (v_hanging A2) rfl)) rfl)) rfl)
  · obtain ⟨h1, h2, h3⟩ := P.next N h
    rw [show (((l.length : Nat) : Int) == ((ns.length : Nat) : Int)) = false by
      rw [beq_eq_false_iff_ne]; omega] at t
    have e5 : fSet 5 (fBin dIdx (fVar 0) (fBlt dLen (fCons (fVar 4) fNil))) [some (rowD tp (ns.map .str)), some L, some (txs some0), some (.lst st), some (ancD l), x5, x6, x7] = .nx [some (rowD tp (ns.map .str)), some L, some (txs some0), some (.lst st), some (ancD l), some (.str (ns.getD l.length "")), x6, x7] := by
      refine setE (binE (x := rowD tp (ns.map .str)) (y := .int (l.length : Nat)) rfl (bltE (consE rfl rfl) ?_) ?_)
      · show some (D.int (mapD D.str l).length) = _
        unfold mapD; rw [List.length_map]
      · exact idx_row h3
    obtain ⟨y6, y7, e6⟩ := kid_all A h1 h2 (some0 := some0) (fun a ha => N.good a (N.sub a ha)) (s0 := some (rowD tp (ns.map .str))) (s1 := some L) (s2 := some (txs some0)) st x6 x7 (by omega)
    refine ⟨some (ancD l), some (.str (ns.getD l.length "")), y6, y7, ySeqE (xs := []) (ys := []) (yPlE e1) (ySeqE (xs := []) (ys := []) (yIfF t (ySeqE (xs := []) (ys := []) (yPlE e5) (ySeqE (xs := []) (ys := []) (yPlE (forE (iterE (d := .lst (((("clock" : Str) :: some0)).map .str)) (binE (x := .lst [.str "clock"]) (y := txs some0) (lstE rfl (show 1 ≤ 1000 by decide)) rfl ?_) rfl) e6)) rfl))) rfl)⟩
    show dAdd (.lst [.str "clock"]) (.lst (some0.map .str)) = some (.lst ((("clock" : Str) :: some0).map .str))
    show (if [D.str ("clock" : Str)].length + (some0.map D.str).length ≤ LIM then _ else _) = _
    rw [if_pos (by rw [List.length_map]; unfold LIM; show 1 + some0.length ≤ 100000; omega)]
    rfl
theorem hg_runT (N : Nms ns some0) : ∀ (k : Nat) (l : Anc) (st : List D) (f : Nat) (x4 x5 x6 x7 : Option D), Part ns l → l.length + k = ns.length → (∀ p ∈ l, p.2 = "clock" ∨ p.2 ∈ some0) → st.length + bnd (some0.length + 1) k + some0.length ≤ 89000 →
      ∃ y4 y5 y6 y7, yWhileN hT hB (nod ns some0 k l + f) [some (rowD tp (ns.map .str)), some L, some (txs some0), some (.lst (st ++ [ancD l])), x4, x5, x6, x7] = pre ((hgs ns some0 k l).map fun t => hangD (sortK t)) (yWhileN hT hB f [some (rowD tp (ns.map .str)), some L, some (txs some0), some (.lst st), y4, y5, y6, y7])
  | 0, l, st, f, x4, x5, x6, x7, P, h, hv, hst => by
    obtain ⟨y4, y5, y6, y7, e⟩ := (hg_turnT (tp := tp) (L := L) N P (st := st) (x4 := x4) (x5 := x5) (x6 := x6) (x7 := x7) (by omega) (fun p hp => (hv p hp).imp id (N.sub _))).1 (by omega)
    exact ⟨y4, y5, y6, y7, by rw [nod, Nat.add_comm 1 f]; exact yWhileT hg_test e⟩
  | k + 1, l, st, f, x4, x5, x6, x7, P, h, hv, hst => by
    have ihk := hg_runT N k
    obtain ⟨c, hc⟩ : ∃ c, c = some0.length + 1 := ⟨_, rfl⟩
    rw [← hc] at ihk hst
    have hb : bnd c (k + 1) = 1 + c * bnd c k := rfl
    have hp := bnd_pos c k
    have hcb : c * 1 ≤ c * bnd c k := Nat.mul_le_mul_left c hp
    rw [hb] at hst
    obtain ⟨y4, y5, y6, y7, e⟩ := (hg_turnT (tp := tp) (L := L) N P (st := st) (x4 := x4) (x5 := x5) (x6 := x6) (x7 := x7) (by omega) (fun p hp => (hv p hp).imp id (N.sub _))).2 (by omega)
    obtain ⟨ks, hks⟩ : ∃ ks, ks = kids some0 l (ns.getD l.length "") := ⟨_, rfl⟩
    have hkl : ks.length ≤ c := by rw [hks, hc]; exact kids_len l _
    have hkk : ∀ t ∈ ks, Part ns t ∧ t.length = l.length + 1 ∧ ∀ p ∈ t, p.2 = "clock" ∨ p.2 ∈ some0 := fun t ht => by
      rw [hks] at ht
      obtain ⟨P2, h2⟩ := P.kid N (by omega) ht
      refine ⟨P2, h2, fun p hp => ?_⟩
      obtain ⟨a, ha, rfl⟩ := List.mem_map.mp ht
      rcases List.mem_append.mp hp with z | z
      · exact hv p z
      · rw [List.mem_singleton.mp z]
        rcases List.mem_cons.mp ha with rfl | ha
        · exact .inl rfl
        · exact .inr (List.mem_filter.mp ha).1
    have go : ∀ (ts : List Anc) (f : Nat) (x4 x5 x6 x7 : Option D), ts.length ≤ c → (∀ t ∈ ts, Part ns t ∧ t.length = l.length + 1 ∧ ∀ p ∈ t, p.2 = "clock" ∨ p.2 ∈ some0) →
        ∃ y4 y5 y6 y7, yWhileN hT hB ((ts.map (nod ns some0 k)).sum + f) [some (rowD tp (ns.map .str)), some L, some (txs some0), some (.lst (st ++ ts.reverse.map ancD)), x4, x5, x6, x7] = pre ((ts.flatMap (hgs ns some0 k)).map fun t => hangD (sortK t)) (yWhileN hT hB f [some (rowD tp (ns.map .str)), some L, some (txs some0), some (.lst st), y4, y5, y6, y7]) := by
      intro ts
      induction ts with
      | nil => exact fun f x4 x5 x6 x7 _ _ => ⟨x4, x5, x6, x7, by rw [List.reverse_nil, List.map_nil (f := ancD), List.append_nil, List.map_nil (f := nod ns some0 k), List.sum_nil, Nat.zero_add]; rfl⟩
      | cons t ts ih =>
        intro f x4 x5 x6 x7 hl ht
        rw [List.length_cons] at hl
        obtain ⟨P2, h2, h3⟩ := ht t List.mem_cons_self
        have hm2 : (ts.length + 1) * bnd c k ≤ c * bnd c k := Nat.mul_le_mul_right _ hl
        have hm : ts.length * 1 ≤ ts.length * bnd c k := Nat.mul_le_mul_left _ hp
        rw [Nat.add_mul, Nat.one_mul] at hm2
        obtain ⟨w4, w5, w6, w7, e1⟩ := ihk t (st ++ ts.reverse.map ancD) ((ts.map (nod ns some0 k)).sum + f) x4 x5 x6 x7 P2 (by omega) h3 (by rw [List.length_append, List.length_map, List.length_reverse]; omega)
        obtain ⟨z4, z5, z6, z7, e2⟩ := ih f w4 w5 w6 w7 (by omega) (fun u hu => ht u (List.mem_cons_of_mem _ hu))
        refine ⟨z4, z5, z6, z7, ?_⟩
        rw [List.map_cons, List.sum_cons, Nat.add_assoc, List.reverse_cons, List.map_append, ← List.append_assoc]
        refine Eq.trans e1 ?_
        rw [e2, pre_pre, List.flatMap_cons, List.map_append]
    obtain ⟨z4, z5, z6, z7, e2⟩ := go ks.reverse f y4 y5 y6 y7 (by rw [List.length_reverse]; exact hkl) (fun t ht => hkk t (List.mem_reverse.mp ht))
    refine ⟨z4, z5, z6, z7, ?_⟩
    rw [nod, hgs, ← hks, Nat.add_assoc, Nat.add_comm 1]
    rw [← hks] at e
    rw [List.reverse_reverse] at e2
    refine (yWhileT hg_test e).trans ?_
    rw [pre_nil]
    exact e2
end
section
variable {ns looks : List Str} {tp tq : Bool}
theorem v_hangingsT (hg : ∀ x ∈ ns, Good x) (hn : ns.Nodup) (hl : ns.length ≤ 7) (hk : ∀ x ∈ looks, sOk x) (hlk : looks.length ≤ 100) (hpow : ((ns.filter fun x => decide (x ∈ looks)).length + 1) ^ ns.length ≤ 700) :
    f_hangings [rowD tp (ns.map .str), rowD tq (looks.map .str)] = some ((hgs ns (ns.filter fun x => decide (x ∈ looks)) ns.length []).map fun t => hangD (sortK t)) := by
  obtain ⟨some0, hs0⟩ : ∃ some0, some0 = ns.filter fun x => decide (x ∈ looks) := ⟨_, rfl⟩
  rw [← hs0] at hpow ⊢
  have N : Nms ns some0 := ⟨hg, hn, hl, fun a ha => by rw [hs0] at ha; exact (List.mem_filter.mp ha).1⟩
  have hsl : some0.length ≤ 7 := by
    have := List.length_filter_le (fun x => decide (x ∈ looks)) ns
    rw [hs0]; omega
  have hb : bnd (some0.length + 1) ns.length ≤ 5600 := by
    have h1 := bnd_le (c := some0.length + 1) (by omega) ns.length
    have h2 := Nat.mul_le_mul (show ns.length + 1 ≤ 8 by omega) hpow
    omega
  have hnod := nod_le (ns := ns) (some0 := some0) ns.length []
  have e2 : fSetF 2 (fLc (fIter (fVar 0)) [5] (fgNm 5) (fBinT dIn (fVar 5) (fVar 1)) (fVar 5)) [some (rowD tp (ns.map .str)), some (rowD tq (looks.map .str)), none, none, none, none, none, none] = .nx [some (rowD tp (ns.map .str)), some (rowD tq (looks.map .str)), some (txs some0), none, none, none, none, none] := by
    refine setFE (show 2 < 8 by decide) ?_
    rw [hs0]
    exact lcE (ds := ns.map .str) (iterE rfl (iter_row tp _)) (by rw [List.length_map]; unfold LIM; omega) (lc_filter (g := fgNm 5) D.str (fun x => decide (x ∈ looks)) D.str ns fun x hx => ⟨[some (rowD tp (ns.map .str)), some (rowD tq (looks.map .str)), none, none, none, some (.str x), none, none], rfl, binTE (x := .str x) (y := rowD tq (looks.map .str)) rfl rfl (in_row (hg x hx).ok hk), fun _ => rfl⟩)
  have e3 : fSetF 3 (fLst (fCons (fC (.dic [])) fNil)) [some (rowD tp (ns.map .str)), some (rowD tq (looks.map .str)), some (txs some0), none, none, none, none, none] = .nx [some (rowD tp (ns.map .str)), some (rowD tq (looks.map .str)), some (txs some0), some (.lst ([] ++ [ancD []])), none, none, none, none] := setFE (show 3 < 8 by decide) (lstE rfl (show 1 ≤ 1000 by decide))
  obtain ⟨f, hf⟩ : ∃ f, FUEL = nod ns some0 ns.length [] + (f + 1) := ⟨FUEL - nod ns some0 ns.length [] - 1, by unfold FUEL; omega⟩
  obtain ⟨y4, y5, y6, y7, e⟩ := hg_runT (tp := tp) (L := rowD tq (looks.map .str)) N ns.length [] [] (f + 1) none none none none part_nil (by simp) (fun p hp => nomatch hp) (by rw [List.length_nil]; omega)
  have ew : yWhile hT hB [some (rowD tp (ns.map .str)), some (rowD tq (looks.map .str)), some (txs some0), some (.lst ([] ++ [ancD []])), none, none, none, none] = ((hgs ns some0 ns.length []).map (fun t => hangD (sortK t)), .nx [some (rowD tp (ns.map .str)), some (rowD tq (looks.map .str)), some (txs some0), some (.lst []), y4, y5, y6, y7]) := by
    unfold yWhile
    rw [hf, e, yWhileF hg_end]
    unfold pre
    rw [List.append_nil]
  show (match B_hangings [some (rowD tp (ns.map .str)), some (rowD tq (looks.map .str)), none, none, none, none, none, none] with
    | (l, .nx _) => some l
    | _ => none) = _
  have eB : B_hangings [some (rowD tp (ns.map .str)), some (rowD tq (looks.map .str)), none, none, none, none, none, none] = ([] ++ ([] ++ ((hgs ns some0 ns.length []).map (fun t => hangD (sortK t)) ++ [])), .nx [some (rowD tp (ns.map .str)), some (rowD tq (looks.map .str)), some (txs some0), some (.lst []), y4, y5, y6, y7]) := ySeqE (yPlE e2) (ySeqE (yPlE e3) (ySeqE ew rfl))
  rw [eB]
  simp only [List.nil_append, List.append_nil]
end

end DL.SK
namespace DL.SK
open PySem PySem.Spec PyProof.Rows L2 GF
variable [TabC]
section
variable {ns some0 looks lf : List Str}
/-! ### each hanging once -/
theorem hgs_take : ∀ (k : Nat) (l t : Anc), t ∈ hgs ns some0 k l → t.take l.length = l
  | 0, l, t, h => by
    rw [hgs, List.mem_singleton] at h
    rw [h, List.take_length]
  | k + 1, l, t, h => by
    rw [hgs] at h
    obtain ⟨u, hu, ht⟩ := List.mem_flatMap.mp h
    have e := hgs_take k u t ht
    obtain ⟨a, _, rfl⟩ := List.mem_map.mp (List.mem_reverse.mp hu)
    have e2 := congrArg (List.take l.length) e
    rw [List.take_take, List.take_left, List.length_append, Nat.min_eq_left (by omega)] at e2
    exact e2
theorem kids_nodup (hs : (("clock" : Str) :: some0).Nodup) (l : Anc) (x : Str) : (kids some0 l x).Nodup := by
  have h : (chs l some0 x).Nodup := List.Nodup.sublist (List.Sublist.cons₂ _ List.filter_sublist) hs
  unfold kids
  refine List.pairwise_map.mpr (List.Pairwise.imp (fun {a b} z e => z ?_) h)
  have e2 := (List.append_inj' e rfl).2
  exact (Prod.mk.inj (List.cons.inj e2).1).2
theorem hgs_nodup (hs : (("clock" : Str) :: some0).Nodup) : ∀ (k : Nat) (l : Anc), (hgs ns some0 k l).Nodup
  | 0, l => (List.nodup_cons.mpr ⟨(fun h => nomatch h), List.nodup_nil⟩)
  | k + 1, l => by
    rw [hgs]
    refine List.pairwise_flatMap.mpr ⟨fun t _ => hgs_nodup hs k t, ?_⟩
    have hr : (kids some0 l (ns.getD l.length "")).reverse.Nodup := (List.reverse_perm _).nodup_iff.mpr (kids_nodup hs _ _)
    refine List.Pairwise.imp_of_mem (fun {a b} ha hb z x hx y hy e => z ?_) hr
    have h1 := hgs_take k a x hx
    have h2 := hgs_take k b y hy
    obtain ⟨_, _, ea⟩ := List.mem_map.mp (List.mem_reverse.mp ha)
    obtain ⟨_, _, eb⟩ := List.mem_map.mp (List.mem_reverse.mp hb)
    have la : a.length = b.length := by rw [← ea, ← eb, List.length_append, List.length_append]; rfl
    rw [← h1, ← h2, e, la]
theorem trs_nodup {on : List Str} (ho : on.Nodup) (names : List Str) : (trs on names).Nodup := by
  have go : ∀ (names : List Str) (acc : List Anc), acc.Nodup → (names.foldl (trS on) acc).Nodup := fun names => by
    induction names with
    | nil => exact fun acc h => h
    | cons x names ih =>
      intro acc h
      rw [List.foldl_cons]
      refine ih _ ?_
      unfold trS
      refine List.pairwise_flatMap.mpr ⟨fun l _ => List.pairwise_map.mpr (List.Pairwise.imp (fun {a b} z e => z ?_) ho), List.Pairwise.imp (fun {a b} z x hx y hy e => z ?_) h⟩
      · have e2 := (List.append_inj' e rfl).2
        exact (Prod.mk.inj (List.cons.inj e2).1).2
      · obtain ⟨_, _, rfl⟩ := List.mem_map.mp hx
        obtain ⟨_, _, rfl⟩ := List.mem_map.mp hy
        exact (List.append_inj' e rfl).1
  exact go names _ ((List.nodup_cons.mpr ⟨(fun h => nomatch h), List.nodup_nil⟩))
theorem clock_nodup (hg : ∀ x ∈ ns, Good x) (hf : lf.Nodup) (hk : ∀ x ∈ lf, x ∈ ns) : (("clock" : Str) :: lf).Nodup := List.nodup_cons.mpr ⟨fun h => (hg _ (hk _ h)).nc rfl, hf⟩
/-- the program's and the law's -/
theorem hgs_perm (hg : ∀ x ∈ ns, Good x) (hn : ns.Nodup) (hl : ns.length ≤ 7) (hf : lf.Nodup) (hk : ∀ x ∈ lf, x ∈ ns) (he : ∀ x ∈ ns, x ∈ lf ↔ x ∈ looks) :
    (hgs ns (ns.filter fun x => decide (x ∈ looks)) ns.length []).Perm ((trs (("clock" : Str) :: lf) ns).filter isTr) := by
  have e : (ns.filter fun x => decide (x ∈ looks)) = ns.filter fun x => decide (x ∈ lf) := List.filter_congr fun x hx => decide_eq_decide.mpr (he x hx).symm
  rw [e]
  refine (List.perm_ext_iff_of_nodup (hgs_nodup ?_ _ _) ((trs_nodup (clock_nodup hg hf hk) ns).filter _)).mpr fun t => mem_hgs hg hn hl hk
  exact clock_nodup hg (hn.filter _) fun x hx => (List.mem_filter.mp hx).1
end
/-! ### other names -/
section
variable {r : Str → Str}
def rn (r : Str → Str) (t : Anc) : Anc := t.map fun p => (r p.1, r p.2)
theorem trs_rn (on names : List Str) : (trs on names).map (rn r) = trs (on.map r) (names.map r) := by
  have go : ∀ (names : List Str) (acc : List Anc), (names.foldl (trS on) acc).map (rn r) = (names.map r).foldl (trS (on.map r)) (acc.map (rn r)) := fun names => by
    induction names with
    | nil => exact fun acc => rfl
    | cons x names ih =>
      intro acc
      rw [List.foldl_cons, ih, List.map_cons, List.foldl_cons]
      refine congrArg (fun z => (names.map r).foldl (trS (on.map r)) z) ?_
      unfold trS
      rw [List.map_flatMap, List.flatMap_map]
      refine congrArg (fun f => acc.flatMap f) (funext fun l => ?_)
      rw [List.map_map, List.map_map]
      refine List.map_congr_left fun a _ => ?_
      show rn r (l ++ [(x, a)]) = rn r l ++ [(r x, r a)]
      unfold rn
      rw [List.map_append]
      rfl
  exact go names _
theorem look_rn {S : List Str} (hi : ∀ x ∈ S, ∀ y ∈ S, r x = r y → x = y) : ∀ {t : Anc} {x : Str}, (∀ y ∈ keys t, y ∈ S) → x ∈ S → (rn r t).lookup (r x) = (t.lookup x).map r
  | [], x, _, _ => rfl
  | (y, a) :: t, x, hk, hx => by
    have ih := look_rn hi (t := t) (x := x) (fun z hz => hk z (List.mem_cons_of_mem _ hz)) hx
    show ((r y, r a) :: rn r t).lookup (r x) = _
    rw [List.lookup_cons, List.lookup_cons]
    by_cases e : x = y
    · subst e
      simp
    · have e2 : ¬ r x = r y := fun z => e (hi x hx y (hk y List.mem_cons_self) z)
      rw [show (r x == r y) = false from beq_eq_false_iff_ne.mpr e2, show (x == y) = false from beq_eq_false_iff_ne.mpr e]
      exact ih
theorem it_rn {S : List Str} (hi : ∀ x ∈ S, ∀ y ∈ S, r x = r y → x = y) (hc : r "clock" = "clock") (hS : ("clock" : Str) ∈ S) {t : Anc} (hk : ∀ y ∈ keys t, y ∈ S) (hv : ∀ p ∈ t, p.2 = "clock" ∨ p.2 ∈ keys t) : ∀ (k : Nat) (x : Str), x = "clock" ∨ x ∈ keys t → itN (rn r t) k (r x) = r (itN t k x)
  | 0, x, _ => rfl
  | k + 1, x, hx => by
    have hxS : x ∈ S := hx.elim (fun e => e ▸ hS) (hk x)
    rw [itN, itN]
    have e : stp (rn r t) (r x) = r (stp t x) ∧ (stp t x = "clock" ∨ stp t x ∈ keys t) := by
      unfold stp
      by_cases ex : x = "clock"
      · rw [if_pos ex, ex, hc, if_pos rfl]
        exact ⟨rfl, .inl rfl⟩
      · have hm := hx.resolve_left ex
        have e2 : ¬ r x = "clock" := fun z => ex (hi x hxS _ hS (z.trans hc.symm))
        rw [if_neg ex, if_neg e2]
        have e3 := look_get hm
        have e4 := look_rn hi hk hxS
        rw [e3] at e4
        exact ⟨get_of e4, hv _ (look_some e3)⟩
    rw [e.1]
    exact it_rn hi hc hS hk hv k _ e.2
theorem isTr_rn {S : List Str} (hi : ∀ x ∈ S, ∀ y ∈ S, r x = r y → x = y) (hc : r "clock" = "clock") (hS : ("clock" : Str) ∈ S) {t : Anc} (hk : ∀ y ∈ keys t, y ∈ S) (hv : ∀ p ∈ t, p.2 = "clock" ∨ p.2 ∈ keys t) : isTr (rn r t) = isTr t := by
  have ek : keys (rn r t) = (keys t).map r := by unfold keys rn; rw [List.map_map, List.map_map]; rfl
  unfold isTr
  rw [ek, List.all_map, List.length_map]
  have go : ∀ xs : List Str, (∀ x ∈ xs, x ∈ keys t) → (xs.all ((fun x => decide (itN (rn r t) (keys t).length x = "clock")) ∘ r)) = xs.all fun x => decide (itN t (keys t).length x = "clock") := fun xs => by
    induction xs with
    | nil => exact fun _ => rfl
    | cons x xs ih =>
      intro h
      rw [List.all_cons, List.all_cons, ih fun y hy => h y (List.mem_cons_of_mem _ hy)]
      have hx := h x List.mem_cons_self
      show (decide (itN (rn r t) (keys t).length (r x) = "clock") && _) = _
      rw [it_rn hi hc hS hk hv _ x (.inr hx)]
      congr 1
      refine decide_eq_decide.mpr ⟨fun z => ?_, fun z => by rw [z, hc]⟩
      have mem : ∀ (k : Nat) (x : Str), x = "clock" ∨ x ∈ keys t → itN t k x = "clock" ∨ itN t k x ∈ keys t := fun k => by
        induction k with
        | zero => exact fun x h => h
        | succ k ih =>
          intro x h
          rw [itN]
          refine ih _ ?_
          unfold stp
          by_cases ex : x = "clock"
          · rw [if_pos ex]; exact .inl rfl
          · rw [if_neg ex]
            exact hv _ (look_some (look_get (h.resolve_left ex)))
      rcases mem (keys t).length x (.inr hx) with e | e
      · exact e
      · exact hi _ (hk _ e) _ hS (z.trans hc.symm)
  exact go _ fun x hx => hx
/-- how many trees there are -/
theorem trees_rn {ns : List Str} (hi : ∀ x ∈ ("clock" : Str) :: ns, ∀ y ∈ ("clock" : Str) :: ns, r x = r y → x = y) (hc : r "clock" = "clock") : ((trs (("clock" : Str) :: ns) ns).filter isTr).length = ((trs (("clock" : Str) :: ns.map r) (ns.map r)).filter isTr).length := by
  have e := trs_rn (r := r) (("clock" : Str) :: ns) ns
  rw [List.map_cons, hc] at e
  rw [← e, List.filter_map, List.length_map]
  refine congrArg List.length (List.filter_congr fun t ht => ?_)
  obtain ⟨h1, h2⟩ := mem_trs.mp ht
  exact (isTr_rn hi hc List.mem_cons_self (fun y hy => List.mem_cons_of_mem _ (h1 ▸ hy)) fun p hp => by rw [h1]; exact List.mem_cons.mp (h2 p hp)).symm
end
def CN : List Str := ["a", "b", "c", "d"]
def many (n : Nat) : Nat := ((trs (("clock" : Str) :: CN.take n) (CN.take n)).filter isTr).length
theorem many_all : many 0 = 1 ∧ many 1 = 1 ∧ many 2 = 3 ∧ many 3 = 16 ∧ many 4 = 125 := by decide +kernel
theorem trees_many {ns : List Str} (hg : ∀ x ∈ ns, Good x) (hn : ns.Nodup) (hl : ns.length ≤ 4) : ((trs (("clock" : Str) :: ns) ns).filter isTr).length = many ns.length := by
  let r : Str → Str := fun x => if x = "clock" then "clock" else CN.getD (ns.idxOf x) "clock"
  have hr : ∀ x ∈ ns, r x = CN.getD (ns.idxOf x) "clock" := fun x hx => if_neg (hg x hx).nc
  have hlt : ∀ x ∈ ns, ns.idxOf x < 4 := fun x hx => Nat.lt_of_lt_of_le (List.idxOf_lt_length_iff.mpr hx) hl
  have inj4 : ∀ i, i < 4 → ∀ j, j < 4 → CN.getD i "clock" = CN.getD j "clock" → i = j := by decide +kernel
  have nc4 : ∀ i, i < 4 → CN.getD i "clock" ≠ "clock" := by decide +kernel
  have em : ns.map r = CN.take ns.length := by
    apply List.ext_getElem?
    intro i
    rw [List.getElem?_map, List.getElem?_take]
    by_cases hi : i < ns.length
    · rw [if_pos hi, List.getElem?_eq_getElem hi]
      show some (r ns[i]) = _
      rw [hr _ (List.getElem_mem hi), List.Nodup.idxOf_getElem hn i hi]
      have : i < CN.length := Nat.lt_of_lt_of_le hi hl
      rw [List.getD_eq_getElem?_getD, List.getElem?_eq_getElem this]
      rfl
    · rw [if_neg hi, List.getElem?_eq_none (Nat.le_of_not_lt hi)]
      rfl
  have e := trees_rn (r := r) (ns := ns) (fun x hx y hy z => ?_) (if_pos rfl)
  · rw [em] at e
    exact e
  · rcases List.mem_cons.mp hx with ex | hx <;> rcases List.mem_cons.mp hy with ey | hy
    · rw [ex, ey]
    · exfalso
      rw [ex, hr y hy] at z
      exact nc4 _ (hlt y hy) ((if_pos rfl : r "clock" = "clock").symm.trans z).symm
    · exfalso
      rw [ey, hr x hx] at z
      exact nc4 _ (hlt x hx) (z.trans (if_pos rfl : r "clock" = "clock"))
    · rw [hr x hx, hr y hy] at z
      have h := inj4 _ (hlt x hx) _ (hlt y hy) z
      have h1 := List.getElem_idxOf (List.idxOf_lt_length_iff.mpr hx)
      have h2 := List.getElem_idxOf (List.idxOf_lt_length_iff.mpr hy)
      rw [← h1, ← h2]
      simp only [h]
end DL.SK
namespace DL.SK
open PySem PySem.Spec PyProof.Rows L2
variable [TabC]
theorem v_treesG {names looks : List Str} {tp : Bool} (hg : ∀ x ∈ names, Good x) (hn : names.Nodup) (hk : ∀ x ∈ looks, sOk x) (hl : names.length ≤ 100) (hlk : looks.length ≤ 100) (hs : ((looks.filter fun x => decide (x ∈ names)).length + 1) ^ names.length ≤ 1000) :
    f__law_trees [txs names, rowD tp (looks.map .str)] = .ok (.lst (((trs (("clock" : Str) :: looks.filter fun x => decide (x ∈ names)) names).filter isTr).map ancD)) := by
  obtain ⟨on, hon⟩ : ∃ on : List Str, on = ("clock" : Str) :: looks.filter (fun x => decide (x ∈ names)) := ⟨_, rfl⟩
  have hfl := List.length_filter_le (fun x => decide (x ∈ names)) looks
  have honl : on.length = (looks.filter fun x => decide (x ∈ names)).length + 1 := by rw [hon]; rfl
  have hpow : ∀ k, k ≤ names.length → on.length ^ k ≤ 1000 := fun k hk => by
    rw [honl]
    exact Nat.le_trans (Nat.pow_le_pow_right (by omega) hk) hs
  -- one more place
  have onE : ∀ (x2 x3 x4 x5 x6 : Option D), fIter (fBin dAdd (fLst (fCons (fC (.str "clock")) fNil)) (fLc (fIter (fVar 1)) [7] (fgNm 7) (fBinT dIn (fVar 7) (fVar 0)) (fVar 7))) [some (txs names), some (rowD tp (looks.map .str)), x2, x3, x4, x5, x6, none] = .ok (on.map .str) := fun x2 x3 x4 x5 x6 => by
    have e := lc_filter (g := fgNm 7) (t := fBinT dIn (fVar 7) (fVar 0)) (e := fVar 7) (s0 := hideL [some (txs names), some (rowD tp (looks.map .str)), x2, x3, x4, x5, x6, none] [7]) D.str (fun x => decide (x ∈ names)) D.str looks fun x hx => ⟨[some (txs names), some (rowD tp (looks.map .str)), x2, x3, x4, x5, x6, some (.str x)], rfl, binTE (x := .str x) (y := txs names) rfl rfl (dIn_strs (hk x hx) fun y hy => (hg y hy).ok), fun _ => rfl⟩
    refine iterE (d := txs on) (binE (x := .lst [.str "clock"]) (y := txs (looks.filter fun x => decide (x ∈ names))) (lstE rfl (show 1 ≤ 1000 by decide)) (lcE (ds := looks.map .str) (iterE rfl row_iter) (by rw [List.length_map]; unfold LIM; omega) e) ?_) rfl
    rw [txs, TT.addLT (by rw [List.length_map]; show 1 + _ ≤ 1000; omega), hon]
    rfl
  obtain ⟨s', e, x3, x4, x5, x6, rfl⟩ := for_acc (g := fgNm 3) (b := b__law_trees_3) D.str (fun pre s => ∃ x3 x4 x5 x6, s = [some (txs names), some (rowD tp (looks.map .str)), some (.lst ((trs on pre).map ancD)), x3, x4, x5, x6, none]) names (s := [some (txs names), some (rowD tp (looks.map .str)), some (.lst [.dic []]), none, none, none, none, none]) ⟨_, _, _, _, rfl⟩ (fun pre x post s hq ⟨x3, x4, x5, x6, es⟩ => by
    subst es
    have hpl : pre.length + 1 ≤ names.length := by
      have := congrArg List.length hq
      rw [List.length_append, List.length_cons] at this
      omega
    have hx : x ∉ pre := fun z => by
      rw [← hq] at hn
      exact (List.nodup_append.mp hn).2.2 x z x List.mem_cons_self rfl
    have hlen := hpow _ hpl
    rw [Nat.pow_succ] at hlen
    have htl : (trs on pre).length = on.length ^ pre.length := trs_len pre
    obtain ⟨s1, e1, y5, y6, rfl⟩ := for_acc (g := fgNm 5) (b := b__law_trees_2) ancD (fun p2 s => ∃ y5 y6, s = [some (txs names), some (rowD tp (looks.map .str)), some (.lst ((trs on pre).map ancD)), some (.str x), some (.lst ((trS on p2 x).map ancD)), y5, y6, none]) (trs on pre) (s := [some (txs names), some (rowD tp (looks.map .str)), some (.lst ((trs on pre).map ancD)), some (.str x), some (.lst []), x5, x6, none]) ⟨_, _, rfl⟩ (fun p2 l post2 s hq2 ⟨y5, y6, es⟩ => by
      subst es
      have hlm : l ∈ trs on pre := by rw [← hq2]; exact List.mem_append_right _ List.mem_cons_self
      have hlk2 := (mem_trs.mp hlm).1
      have hxl : x ∉ keys l := by rw [hlk2]; exact hx
      have hll : l.length ≤ 1000 := by
        have := congrArg List.length hlk2
        rw [keys, List.length_map] at this
        omega
      have hp2 : p2.length + 1 ≤ (trs on pre).length := by
        have := congrArg List.length hq2
        rw [List.length_append, List.length_cons] at this
        omega
      have hmul : p2.length * on.length + on.length ≤ 1000 := by
        have := Nat.mul_le_mul_right on.length hp2
        rw [Nat.add_mul, Nat.one_mul, htl] at this
        omega
      obtain ⟨s2, e2, y6', rfl⟩ := for_acc (g := fgNm 6) (b := b__law_trees_1) D.str (fun p3 s => ∃ y6, s = [some (txs names), some (rowD tp (looks.map .str)), some (.lst ((trs on pre).map ancD)), some (.str x), some (.lst ((trS on p2 x ++ p3.map fun a => l ++ [(x, a)]).map ancD)), some (ancD l), y6, none]) on (s := [some (txs names), some (rowD tp (looks.map .str)), some (.lst ((trs on pre).map ancD)), some (.str x), some (.lst ((trS on p2 x).map ancD)), some (ancD l), y6, none]) ⟨_, by rw [List.map_nil, List.append_nil]⟩ (fun p3 a post3 s hq3 ⟨y6, es⟩ => by
        subst es
        have hp3 : p3.length + 1 ≤ on.length := by
          have := congrArg List.length hq3
          rw [List.length_append, List.length_cons] at this
          omega
        refine ⟨_, rfl, _, appE (ds := (trS on p2 x ++ p3.map fun a => l ++ [(x, a)]).map ancD) rfl (callE (ds := [ancD l, .str x, .str a]) rfl rfl (v_withG (f := D.str) hxl hll)) (by rw [List.length_map, List.length_append, List.length_map, trS_len]; unfold LIM; omega), some (.str a), ?_⟩
        have : trS on p2 x ++ (p3 ++ [a]).map (fun a => l ++ [(x, a)]) = (trS on p2 x ++ p3.map fun a => l ++ [(x, a)]) ++ [l ++ [(x, a)]] := by
          rw [List.map_append, List.append_assoc]
          rfl
        have h4 : ∀ (X : List Anc) (y : Anc), (X ++ [y]).map ancD = X.map ancD ++ [ancD y] := fun X y => List.map_append
        rw [this, h4]
        rfl)
      refine ⟨_, rfl, _, forE (onE _ _ _ _ _) e2, some (ancD l), y6', ?_⟩
      have : trS on (p2 ++ [l]) x = trS on p2 x ++ on.map fun a => l ++ [(x, a)] := by
        unfold trS
        rw [List.flatMap_append]
        simp
      rw [this])
    refine ⟨_, rfl, _, seqN (setFE (show 4 < 8 by decide) rfl) (seqN (forE (iterE rfl rfl) e1) (setE (bltE rfl rfl))), some (.str x), some (.lst ((trS on (trs on pre) x).map ancD)), y5, y6, ?_⟩
    have : trs on (pre ++ [x]) = trS on (trs on pre) x := by
      unfold trs
      rw [List.foldl_append]
      rfl
    rw [this]
    rfl)
  have e2 := lc_filter (g := fgNm 5) (t := fVal (fCall 1 f__law_is_tree [] (fCons (fVar 5) fNil))) (e := fVar 5) (s0 := hideL [some (txs names), some (rowD tp (looks.map .str)), some (.lst ((trs on names).map ancD)), x3, x4, x5, x6, none] [5]) ancD isTr ancD (trs on names) fun t ht => ⟨[some (txs names), some (rowD tp (looks.map .str)), some (.lst ((trs on names).map ancD)), x3, x4, some (ancD t), x6, none], rfl, by
    obtain ⟨h1, h2⟩ := mem_trs.mp ht
    refine valE (callE (ds := [ancD t]) rfl rfl (v_is_tree (by rw [h1]; exact hg) (fun p hp => ?_) ?_))
    · have := h2 p hp
      rw [hon] at this
      rw [h1]
      exact (List.mem_cons.mp this).imp id fun z => by simpa using (List.mem_filter.mp z).2
    · have := congrArg List.length h1
      rw [keys, List.length_map] at this
      omega, fun _ => rfl⟩
  rw [← hon]
  have htl := trs_len (on := on) names
  have := hpow _ (Nat.le_refl _)
  exact runB_rt (seqN (setE (lstE rfl (show 1 ≤ 1000 by decide))) (seqN (forE (iterE rfl rfl) e) (retE (lcE (ds := (trs on names).map ancD) (iterE rfl rfl) (by rw [List.length_map]; unfold LIM; omega) e2))))
end DL.SK
namespace DL
open PySem PySem.Spec PyProof.Rows L2
variable [TabC]
/-! ### xs[::-1] -/
section
variable {K : PySem.W.Frag} {aS : Addr} {H : Hp} {A : AS}
end
section
variable {X : Cx} {E : XK} {O : List Nat} {e : Expr} {m : EM D}
end
end DL
namespace DL
open PySem PySem.Spec PyProof.Rows L2
variable [TabC]
/-! ### texts: str(n), int(text), sep.join(xs), line.split(sep) -/
section
variable {X : Cx} {E : XK} {O : List Nat} {e o : Expr} {mo me : EM D} {pos ap : Pos}
end
end DL
namespace DL
open PySem PySem.Spec PyProof.Rows L2
variable [TabC]
/-! ### isinstance(x, D), x an object of one of some own classes -/
section
variable {X : Cx} {E : XK} {O O' OL : List Nat} {e : Expr} {m me : EM D} {pos p p2 : Pos} {Cs : List Str}
/-! ### D[k], D a dict of the module with texts -/
/-! ### a try whose body raises nothing -/
end
end DL
namespace DL
open PySem PySem.Spec PyProof.Rows L2
variable [TabC]
/-! ### walking the rows of a new dict: f(..).items() -/
section
variable {X : Cx} {E : XK} {O : List Nat} {e tg : Expr} {m : EM D} {pos : Pos}
end
end DL
namespace DL
open PySem PySem.Spec PyProof.Rows L2
variable [TabC]
/-! three targets, the last one takes a new thing -/
section
variable {X : Cx} {E : XK} {O OL : List Nat} {a b c : Expr} {ma mb mc : EM D} {pos : Pos} {i j l : Nat} {x y z : Str}
end
end DL
namespace DL
open PySem PySem.Spec PyProof.Rows L2
variable [TabC]
/-! three targets, the first one takes a new thing, the last one too or not -/
section
variable {X : Cx} {E : XK} {O OL : List Nat} {a b c : Expr} {ma mb mc : EM D} {pos : Pos} {i j l : Nat} {x y z : Str}
end
end DL
namespace DL
open PySem PySem.Spec PyProof.Rows L2
variable [TabC]
/-! three targets, each takes a new thing -/
section
variable {X : Cx} {E : XK} {O OL : List Nat} {a b c : Expr} {ma mb mc : EM D} {pos : Pos} {i j l : Nat} {x y z : Str}
end
end DL
namespace DL
open PySem PySem.Spec PyProof.Rows L2
variable [TabC]
/-! an expression read in one of two ways -/
/-! .. a statement -/
end DL
namespace DL
open PySem PySem.Spec PyProof.Rows L2
variable [TabC]
/-! a test read in one of two ways -/
end DL
namespace DL.K08
open PySem PySem.Spec PyProof.Rows L2 DL.SK
variable [TabC]
theorem trees_eq : f__law_trees = DL.f__law_trees := by funext ds; rfl
theorem rising_eq : f__law_rising = DL.f__law_rising := by funext ds; rfl
theorem v_hrows {t : Anc} : f_Hanging_rows [hangD t] = .ok (ancD t) := runB_rt (retE (bltE (consE (fldE rfl rfl) rfl) rfl))
theorem genE {len : Nat} {F : GF.GFm} {m : FM (List D)} {s : Ev} {ds ys : List D} (h : m s = .ok ds) (hl : ds.length = len) (hF : F ds = some ys) : GF.fGen len F m s = .ok ys := by
  unfold GF.fGen
  rw [h]
  show (if ds.length = len then ofO (F ds) else .bad) = _
  rw [if_pos hl, hF]
  rfl
section
variable {ns looks : List Str} {tp tq : Bool}
abbrev fnd (ns looks : List Str) : List Anc := hgs ns (ns.filter fun x => decide (x ∈ looks)) ns.length []
theorem v_found (hg : ∀ x ∈ ns, Good x) (hn : ns.Nodup) (hl : ns.length ≤ 7) (hk : ∀ x ∈ looks, sOk x) (hlk : looks.length ≤ 100) (hpow : ((ns.filter fun x => decide (x ∈ looks)).length + 1) ^ ns.length ≤ 700) (hh : (fnd ns looks).length ≤ 1000) :
    f__law_found [rowD tp (ns.map .str), rowD tq (looks.map .str)] = .ok (.lst ((fnd ns looks).map fun t => ancD (sortK t))) := by
  have e := v_hangingsT (tp := tp) (tq := tq) hg hn hl hk hlk hpow
  refine runB_rt (retE (lcE (ds := (fnd ns looks).map fun t => hangD (sortK t)) (genE (ds := [rowD tp (ns.map .str), rowD tq (looks.map .str)]) (consE rfl (consE rfl rfl)) rfl e) (by rw [List.length_map]; unfold LIM; omega) ?_))
  exact lc_map (fun t => hangD (sortK t)) (fun t => ancD (sortK t)) _ fun t _ => ⟨_, rfl, methE rfl rfl rfl rfl v_hrows⟩
end
/-! ### dicts of texts, compared -/
theorem okK_str {l : Anc} (h : ∀ p ∈ l, sOk p.2) : okK (mapD .str l) = true := by
  unfold okK mapD
  rw [List.all_map, List.all_eq_true]
  exact fun p hp => okD_str (h p hp)
theorem eqDD_str {l m : Anc} (hn : (keys l).Nodup) (hp : (keys l).Perm (keys m)) : eqDD (mapD .str l) (mapD .str m) = true ↔ ∀ x ∈ keys l, get l x = get m x := by
  have hl : l.length = m.length := by have := hp.length_eq; rw [List.length_map, List.length_map] at this; exact this
  have hL : ((mapD D.str l).length == (mapD D.str m).length) = true := by unfold mapD; rw [List.length_map, List.length_map, hl]; simp
  unfold eqDD eqK
  rw [hL, Bool.true_and, List.all_eq_true]
  constructor
  · intro h x hx
    obtain ⟨p, hp1, rfl⟩ := List.mem_map.mp hx
    have e1 : get l p.1 = p.2 := get_of (look_of hn hp1)
    have h2 := h ((.inr p.1), .str p.2) (List.mem_map.mpr ⟨p, hp1, rfl⟩)
    dsimp only at h2
    rw [lookK_map, look_get (hp.subset hx)] at h2
    have h2 : pyEq (.str p.2) (.str (get m p.1)) = true := h2
    rw [pyEq_str, beq_iff_eq] at h2
    rw [e1, h2]
  · intro h q hq
    obtain ⟨p, hp1, rfl⟩ := List.mem_map.mp hq
    have hk : p.1 ∈ keys l := List.mem_map.mpr ⟨p, hp1, rfl⟩
    have e1 : get l p.1 = p.2 := get_of (look_of hn hp1)
    have e : lookK (mapD D.str m) (.inr p.1) = some (.str p.2) := by rw [lookK_map, look_get (hp.subset hk), ← h p.1 hk, e1]; rfl
    dsimp only
    rw [e]
    show pyEq (.str p.2) (.str p.2) = true
    rw [pyEq_str]
    simp
theorem anc_ext : ∀ {t r : Anc}, keys t = keys r → (keys t).Nodup → (∀ x ∈ keys t, get t x = get r x) → t = r
  | [], [], _, _, _ => rfl
  | [], _ :: _, h, _, _ => by cases h
  | _ :: _, [], h, _, _ => by cases h
  | (x, a) :: t, (y, b) :: r, h, hn, hg => by
    have h1 : x = y := (List.cons.inj h).1
    have h2 : keys t = keys r := (List.cons.inj h).2
    subst h1
    have hn2 := List.nodup_cons.mp hn
    have ea : a = b := by
      have := hg x List.mem_cons_self
      rw [get_of (l := (x, a) :: t) (a := a) (by rw [List.lookup_cons]; simp), get_of (l := (x, b) :: r) (a := b) (by rw [List.lookup_cons]; simp)] at this
      exact this
    subst ea
    rw [anc_ext h2 hn2.2 fun z hz => ?_]
    have hzx : ¬ z = x := fun e => hn2.1 (e ▸ hz)
    have := hg z (List.mem_cons_of_mem _ hz)
    have f : ∀ (l : Anc), get ((x, a) :: l) z = get l z := fun l => by
      unfold get
      rw [List.lookup_cons, show (z == x) = false from beq_eq_false_iff_ne.mpr hzx]
    rw [f, f] at this
    exact this
theorem countP_one {α : Type} [DecidableEq α] {p : α → Bool} {r : α} : ∀ {xs : List α}, xs.Nodup → r ∈ xs → (∀ x ∈ xs, p x = true ↔ x = r) → xs.countP p = 1
  | x :: xs, hn, hr, h => by
    have hn2 := List.nodup_cons.mp hn
    rw [List.countP_cons]
    by_cases e : x = r
    · rw [if_pos ((h x List.mem_cons_self).mpr e)]
      have : xs.countP p = 0 := List.countP_eq_zero.mpr fun y hy z => by
        have := (h y (List.mem_cons_of_mem _ hy)).mp z
        exact hn2.1 (by rw [e, ← this]; exact hy)
      rw [this]
    · rw [if_neg fun z => e ((h x List.mem_cons_self).mp z)]
      have := countP_one hn2.2 ((List.mem_cons.mp hr).resolve_left fun z => e z.symm) fun y hy => h y (List.mem_cons_of_mem _ hy)
      rw [this]
theorem eqs_anc {r : Anc} : ∀ ts : List Anc, (∀ t ∈ ts, ∀ p ∈ t, sOk p.2) → eqsDD (mapD .str r) (ts.map ancD) = some (ts.map fun t => eqDD (mapD .str t) (mapD .str r))
  | [], _ => rfl
  | t :: ts, h => by
    rw [List.map_cons]
    show (if okK (mapD D.str t) = true then (eqsDD (mapD .str r) (ts.map ancD)).map (eqDD (mapD .str t) (mapD .str r) :: ·) else none) = _
    rw [if_pos (okK_str (h t List.mem_cons_self)), eqs_anc ts fun u hu => h u (List.mem_cons_of_mem _ hu)]
    rfl
/-- each of the due is there just once -/
theorem v_count {ns : List Str} {hs : List Anc} {r : Anc} (hn : ns.Nodup) (hk : ∀ t ∈ hs, keys t = ns) (ho : ∀ t ∈ hs, ∀ p ∈ t, sOk p.2) (hd : hs.Nodup) (hr : r ∈ hs) : countX (hs.map fun t => ancD (sortK t)) (ancD r) = some 1 := by
  show (if okK (mapD D.str r) = true then (eqsDD (mapD .str r) (hs.map fun t => ancD (sortK t))).map (fun bs => bs.countP id) else none) = _
  rw [if_pos (okK_str (ho r hr))]
  have e : (hs.map fun t => ancD (sortK t)) = (hs.map sortK).map ancD := by rw [List.map_map]; rfl
  rw [e, eqs_anc (hs.map sortK) fun u hu => ?_]
  · show some (((hs.map sortK).map fun t => eqDD (mapD .str t) (mapD .str r)).countP id) = _
    rw [List.countP_map, List.countP_map]
    refine congrArg some (countP_one hd hr fun t ht => ?_)
    have kt := hk t ht
    have kr := hk r hr
    show eqDD (mapD .str (sortK t)) (mapD .str r) = true ↔ _
    rw [eqDD_str (nd_sort (by rw [kt]; exact hn)) (by rw [keys_sort, kt, kr]; exact rise_perm ns)]
    constructor
    · intro h
      refine anc_ext (by rw [kt, kr]) (by rw [kt]; exact hn) fun x hx => ?_
      have := h x (mem_keys.mpr hx)
      rw [get_sort] at this
      exact this
    · intro h x _
      rw [get_sort, h]
  · obtain ⟨t, ht, rfl⟩ := List.mem_map.mp hu
    exact fun p hp => ho t ht p (mem_sort (by rw [hk t ht]; exact hn) hp)
end DL.K08
namespace DL
open PySem PySem.Spec PyProof.Rows L2
variable [TabC]
end DL
namespace DL.K08
open PySem PySem.Spec PyProof.Rows L2 DL.SK
variable [TabC]
theorem M__law_mix : Meets 2 N__law_mix sp__law_mix B__law_mix := DL.M__law_mix
theorem M__law_names : Meets 2 N__law_names sp__law_names B__law_names := by
  intro ds n Q xq hl h
  obtain ⟨k, rfl, h2, q⟩ := h
  unfold B__law_names
  refine seqU (s' := [some .st, some (.int k), some (txs (NAMES.take 8))]) rfl ⟨rfl, ?_⟩
  refine mix_strs (xs := NAMES) (by decide) (fun x hx => (names_good hx).ok) h2 fun ys p => ?_
  refine ⟨_, rfl, ?_⟩
  have e : cutL (ys.map D.str) none (some (k : Int)) = (ys.take k).map .str := by rw [cut_to, List.map_take]
  rw [e]
  exact q ys p
theorem M__law_some : Meets 2 N__law_some sp__law_some B__law_some := by
  intro ds n Q xq hl h
  obtain ⟨xs, rfl, h1, h2, q⟩ := h
  unfold B__law_some
  refine retM (lcU (ds := xs) rfl (by unfold LIM; omega) ?_)
  refine slc_some xs n q ?_ xs [] [] rfl (List.Sublist.refl _)
  intro d m Q' acc r hm hy hn
  refine ⟨_, rfl, ?_⟩
  refine callM rfl rfl (take_run (by decide) (by decide) (by omega) fun t t0 t1 => ⟨_, dEq_int, ?_⟩)
  by_cases z : t = 0
  · subst z
    exact hy
  · have : decide (t = 0) = false := decide_eq_false z
    rw [show ((t == 0) = false) from beq_eq_false_iff_ne.mpr z]
    exact hn
/-! ### each look once -/
def dd (pre : List Str) : List Str → List Str
  | [] => []
  | x :: r => if x ∈ pre then dd (pre ++ [x]) r else x :: dd (pre ++ [x]) r
theorem mem_dd {x : Str} : ∀ {r pre : List Str}, x ∈ dd pre r ↔ x ∈ r ∧ x ∉ pre
  | [], pre => by simp [dd]
  | y :: r, pre => by
    rw [dd]
    by_cases h : y ∈ pre
    · rw [if_pos h, mem_dd, List.mem_append, List.mem_singleton, List.mem_cons]
      constructor
      · rintro ⟨a, b⟩
        exact ⟨.inr a, fun z => b (.inl z)⟩
      · rintro ⟨a, b⟩
        have hx : x ≠ y := fun z => b (z ▸ h)
        exact ⟨a.resolve_left hx, fun z => z.elim b hx⟩
    · rw [if_neg h, List.mem_cons, mem_dd, List.mem_append, List.mem_singleton, List.mem_cons]
      constructor
      · rintro (a | ⟨a, b⟩)
        · exact ⟨.inl a, fun z => h (a ▸ z)⟩
        · exact ⟨.inr a, fun z => b (.inl z)⟩
      · rintro ⟨a, b⟩
        by_cases e : x = y
        · exact .inl e
        · exact .inr ⟨a.resolve_left e, fun z => z.elim b e⟩
theorem dd_nodup : ∀ (r pre : List Str), (dd pre r).Nodup
  | [], _ => List.nodup_nil
  | y :: r, pre => by
    rw [dd]
    by_cases h : y ∈ pre
    · rw [if_pos h]; exact dd_nodup r _
    · rw [if_neg h]
      refine List.nodup_cons.mpr ⟨fun z => ?_, dd_nodup r _⟩
      exact (mem_dd.mp z).2 (List.mem_append_right _ (List.mem_singleton.mpr rfl))
theorem dd_len : ∀ (r pre : List Str), (dd pre r).length ≤ r.length
  | [], _ => Nat.le_refl _
  | y :: r, pre => by
    rw [dd]
    split
    · have := dd_len r (pre ++ [y]); rw [List.length_cons]; omega
    · have := dd_len r (pre ++ [y]); rw [List.length_cons, List.length_cons]; omega
abbrev ddT : FM Bool := fBinT dNotInX (fVar 10) (fSl (fVar 4) fNone (fSome (fVar 9)))
theorem dd_run {lk : List Str} (ho : ∀ x ∈ lk, sOk x) {x0 x1 x2 x3 x5 x6 x7 x8 x11 : Option D} : ∀ (r pre : List Str), lk = pre ++ r → fLcL (fgTp (fgsCons (fgNm 9) (fgsCons (fgNm 10) fgsNil))) ddT (fVar 10) [x0, x1, x2, x3, some (txs lk), x5, x6, x7, x8, none, none, x11] (pairsD pre.length (r.map .str)) = .ok ((dd pre r).map .str)
  | [], pre, _ => rfl
  | x :: r, pre, e => by
    have ih := dd_run ho r (pre ++ [x]) (by rw [e, List.append_assoc]; rfl) (x0 := x0) (x1 := x1) (x2 := x2) (x3 := x3) (x5 := x5) (x6 := x6) (x7 := x7) (x8 := x8) (x11 := x11)
    rw [List.length_append, List.length_singleton] at ih
    have et : ddT [x0, x1, x2, x3, some (txs lk), x5, x6, x7, x8, some (.int (pre.length : Nat)), some (.str x), x11] = .ok (!decide (x ∈ pre)) := by
      refine binTE (x := .str x) (y := txs pre) rfl (slE (d := txs lk) (i := none) (j := some (pre.length : Nat)) rfl rfl rfl ?_) ?_
      · show some (D.lst (cutL (lk.map .str) none (some ((pre.length : Nat) : Int)))) = _
        rw [cut_to, ← List.map_take, e, List.take_left]
      · exact dNotIn_strs (ho x (by rw [e]; simp)) fun y hy => ho y (by rw [e]; exact List.mem_append_left _ hy)
    rw [List.map_cons, pairsD, fLcL]
    show (ofO (some [x0, x1, x2, x3, some (txs lk), x5, x6, x7, x8, some (.int (pre.length : Nat)), some (.str x), x11])).bind _ = _
    show ((ddT [x0, x1, x2, x3, some (txs lk), x5, x6, x7, x8, some (.int (pre.length : Nat)), some (.str x), x11]).calm.bind _) = _
    rw [et, dd]
    by_cases h : x ∈ pre
    · rw [if_pos h, decide_eq_true h]
      exact ih
    · rw [if_neg h, decide_eq_false h]
      show ((fLcL (fgTp (fgsCons (fgNm 9) (fgsCons (fgNm 10) fgsNil))) ddT (fVar 10) [x0, x1, x2, x3, some (txs lk), x5, x6, x7, x8, none, none, x11] (pairsD (pre.length + 1) (r.map .str))).bind fun xs => Res.ok (D.str x :: xs)) = _
      rw [ih]
      rfl
abbrev TAIL : FS := (fSeq (fSet 6 (fCall 2 f__law_trees [] (fCons (fVar 3) (fCons (fCall 1 f__law_rising [] (fCons (fLc (fEnum (fVar 4)) [9, 10] (fgTp (fgsCons (fgNm 9) (fgsCons (fgNm 10) fgsNil))) (fBinT dNotInX (fVar 10) (fSl (fVar 4) fNone (fSome (fVar 9)))) (fVar 10)) fNil)) fNil)))) (fSeq (fIfS (fOrT (fBinT dNeX (fBlt dLen (fCons (fVar 5) fNil)) (fBlt dLen (fCons (fVar 6) fNil))) (fNotT (fVal (fBlt dAll (fCons (fLc (fIter (fVar 6)) [11] (fgNm 11) fYes (fBin dEqX (fCountX (fVar 5) (fVar 11)) (fC (.int 1)))) fNil))))) (fRet (fC (.bl false))) fNilS) (fSeq (fIfS (fAndT (fVal (fBlt dAll (fCons (fLc (fIter (fVar 3)) [7] (fgNm 7) fYes (fBin dInX (fVar 7) (fVar 4))) fNil))) (fBinT dNeX (fBlt dLen (fCons (fVar 5) fNil)) (fBin dIdx (fLst (fCons (fC (.int 1)) (fCons (fC (.int 1)) (fCons (fC (.int 3)) (fCons (fC (.int 16)) (fCons (fC (.int 125)) fNil)))))) (fBlt dLen (fCons (fVar 3) fNil))))) (fRet (fC (.bl false))) fNilS) (fSeq (fIfS (fNotT (fVal (fBlt dAll (fCons (fLc (GF.fGen 2 f_hangings (fCons (fVar 3) (fCons (fLst fNil) fNil))) [8] (fgNm 8) fYes (fIsC "Hanging" (fVar 8))) fNil)))) (fRet (fC (.bl false))) fNilS) (fIfS (fBinT dNeDL (fCall 2 f__law_found [] (fCons (fVar 3) (fCons (fLst fNil) fNil))) (fLst (fCons (fBlt dDict (fCons (fLc (fIter (fCall 1 f__law_rising [] (fCons (fVar 3) fNil))) [7] (fgNm 7) fYes (fTup (fCons (fVar 7) (fCons (fC (.str "clock")) fNil)))) fNil)) fNil))) (fRet (fC (.bl false))) fNilS)))))
section
variable {ns lk : List Str}
theorem lf_mem {x : Str} : x ∈ (rise (dd [] lk)).filter (fun x => decide (x ∈ ns)) ↔ x ∈ lk ∧ x ∈ ns := by
  rw [List.mem_filter, mem_rise, mem_dd, decide_eq_true_iff]
  simp
theorem len_pow {a n : Nat} (ha : a ≤ 4) (hn : n ≤ 4) (h : a ≤ n) : (a + 1) ^ n ≤ 625 := by
  have h1 : (a + 1) ^ n ≤ 5 ^ n := Nat.pow_le_pow_left (by omega) n
  have h2 : 5 ^ n ≤ 5 ^ 4 := Nat.pow_le_pow_right (by decide) hn
  have : 5 ^ 4 = 625 := by decide
  omega
theorem filt_le (hn : ns.Nodup) (L : List Str) : (ns.filter fun x => decide (x ∈ L)).length ≤ ns.length := List.length_filter_le _ _
theorem fnd_perm (hg : ∀ x ∈ ns, Good x) (hn : ns.Nodup) (hl : ns.length ≤ 4) : (fnd ns lk).Perm ((trs (("clock" : Str) :: (rise (dd [] lk)).filter fun x => decide (x ∈ ns)) ns).filter isTr) :=
  hgs_perm hg hn (by omega) (((rise_perm _).nodup_iff.mpr (dd_nodup _ _)).filter _) (fun x hx => (lf_mem.mp hx).2) fun x hx => ⟨fun h => (lf_mem.mp h).1, fun h => lf_mem.mpr ⟨h, hx⟩⟩
theorem lf_len (hn : ns.Nodup) : ((rise (dd [] lk)).filter fun x => decide (x ∈ ns)).length ≤ ns.length := by
  have h : ((rise (dd [] lk)).filter fun x => decide (x ∈ ns)).Nodup := ((rise_perm _).nodup_iff.mpr (dd_nodup _ _)).filter _
  exact nd_len h fun x hx => (lf_mem.mp hx).2
theorem fnd_len (hg : ∀ x ∈ ns, Good x) (hn : ns.Nodup) (hl : ns.length ≤ 4) : (fnd ns lk).length ≤ 625 := by
  rw [(fnd_perm hg hn hl).length_eq]
  have h1 := List.length_filter_le isTr (trs (("clock" : Str) :: (rise (dd [] lk)).filter fun x => decide (x ∈ ns)) ns)
  rw [trs_len] at h1
  have h2 := len_pow (a := ((rise (dd [] lk)).filter fun x => decide (x ∈ ns)).length) (n := ns.length) (Nat.le_trans (lf_len hn) hl) hl (lf_len hn)
  rw [List.length_cons] at h1
  omega
theorem fnd_nil (hg : ∀ x ∈ ns, Good x) (hn : ns.Nodup) (hl : ns.length ≤ 4) : fnd ns [] = [ns.map fun x => (x, ("clock" : Str))] := by
  have hp : (fnd ns []).Perm ((trs (("clock" : Str) :: []) ns).filter isTr) := hgs_perm hg hn (by omega) List.nodup_nil (fun x hx => nomatch hx) fun x hx => ⟨(fun h => nomatch h), fun h => nomatch h⟩
  obtain ⟨t0, ht0⟩ : ∃ t0 : Anc, t0 = ns.map fun x => (x, ("clock" : Str)) := ⟨_, rfl⟩
  have hk : keys t0 = ns := by rw [ht0]; unfold keys; rw [List.map_map]; exact List.map_id' ns
  have hnk : (keys t0).Nodup := by rw [hk]; exact hn
  have hget : ∀ x ∈ ns, get t0 x = "clock" := fun x hx => get_of (look_of hnk (by rw [ht0]; exact List.mem_map.mpr ⟨x, hx, rfl⟩))
  have hall : ∀ t, t ∈ fnd ns [] ↔ t = t0 := fun t => by
    rw [hp.mem_iff, List.mem_filter, mem_trs]
    constructor
    · rintro ⟨⟨h1, h2⟩, _⟩
      refine anc_ext (by rw [h1, hk]) (by rw [h1]; exact hn) fun x hx => ?_
      rw [hget x (h1 ▸ hx)]
      exact List.mem_singleton.mp (h2 _ (look_some (look_get hx)))
    · intro et
      rw [et]
      refine ⟨⟨hk, fun p hp => ?_⟩, ?_⟩
      · rw [ht0] at hp
        obtain ⟨x, _, rfl⟩ := List.mem_map.mp hp
        exact List.mem_singleton.mpr rfl
      · unfold isTr
        rw [hk, List.all_eq_true]
        intro x hx
        refine decide_eq_true ?_
        obtain ⟨k, hk2⟩ : ∃ k, ns.length = k + 1 := ⟨ns.length - 1, by have := List.length_pos_of_mem hx; omega⟩
        rw [hk2, itN]
        have : stp t0 x = "clock" := by
          unfold stp
          rw [if_neg (hg x hx).nc, hget x hx]
        rw [this, itN_clock]
  have hd : (fnd ns []).Nodup := hp.nodup_iff.mpr ((trs_nodup (by decide) ns).filter _)
  have hm := (hall t0).mpr rfl
  rw [← ht0]
  match hf : fnd ns [], hd, hall, hm with
  | [], _, _, h => exact nomatch h
  | [t], _, ha, _ => rw [(ha t).mp List.mem_cons_self]
  | t :: u :: r, hd, ha, _ =>
    exfalso
    have e1 := (ha t).mp List.mem_cons_self
    have e2 := (ha u).mp (List.mem_cons_of_mem _ List.mem_cons_self)
    exact (List.nodup_cons.mp hd).1 (by rw [e1, ← e2]; exact List.mem_cons_self)
theorem many_ix : ∀ n, n ≤ 4 → dIdx (.lst [.int 1, .int 1, .int 3, .int 16, .int 125]) (.int (n : Nat)) = some (.int (many n : Nat)) := by
  obtain ⟨m0, m1, m2, m3, m4⟩ := many_all
  intro n hn
  match n, hn with
  | 0, _ => rw [m0]; rfl
  | 1, _ => rw [m1]; rfl
  | 2, _ => rw [m2]; rfl
  | 3, _ => rw [m3]; rfl
  | 4, _ => rw [m4]; rfl
theorem tail_run (hg : ∀ x ∈ ns, Good x) (hn : ns.Nodup) (hl : ns.length ≤ 4) (ho : ∀ x ∈ lk, sOk x) (hlk : lk.length ≤ 100) {x2 x6 x7 x8 x9 x10 x11 : Option D} :
    ∃ y6, TAIL [none, some .st, x2, some (txs ns), some (txs lk), some (.lst ((fnd ns lk).map fun t => ancD (sortK t))), x6, x7, x8, x9, x10, x11] = .nx [none, some .st, x2, some (txs ns), some (txs lk), some (.lst ((fnd ns lk).map fun t => ancD (sortK t))), y6, x7, x8, x9, x10, x11] := by
  obtain ⟨F, hF⟩ : ∃ F : D, F = .lst ((fnd ns lk).map fun t => ancD (sortK t)) := ⟨_, rfl⟩
  obtain ⟨lf, hlf⟩ : ∃ lf : List Str, lf = (rise (dd [] lk)).filter fun x => decide (x ∈ ns) := ⟨_, rfl⟩
  obtain ⟨T, hT⟩ : ∃ T : List Anc, T = (trs (("clock" : Str) :: lf) ns).filter isTr := ⟨_, rfl⟩
  have hp : (fnd ns lk).Perm T := by rw [hT, hlf]; exact fnd_perm hg hn hl
  have hfl : (fnd ns lk).length ≤ 625 := fnd_len hg hn hl
  have hTl : T.length ≤ 625 := by rw [← hp.length_eq]; exact hfl
  have hdd := dd_len lk []
  have hlfl : lf.length ≤ ns.length := by rw [hlf]; exact lf_len hn
  have hor : ∀ x ∈ rise (dd [] lk), sOk x := fun x hx => ho x (mem_dd.mp (mem_rise.mp hx)).1
  have hrl : (rise (dd [] lk)).length ≤ 100 := by rw [(rise_perm _).length_eq]; omega
  have ok : ∀ x ∈ ns, sOk x := fun x hx => (hg x hx).ok
  have kT : ∀ t ∈ T, keys t = ns ∧ ∀ p ∈ t, p.2 ∈ ("clock" : Str) :: lf := fun t ht => by
    rw [hT] at ht
    exact mem_trs.mp (List.mem_filter.mp ht).1
  have oT : ∀ t ∈ T, ∀ p ∈ t, sOk p.2 := fun t ht p hp => by
    rcases List.mem_cons.mp ((kT t ht).2 p hp) with e | e
    · rw [e]; exact clock_ok
    · rw [hlf] at e
      exact ok _ (lf_mem.mp e).2
  have e6 : fSet 6 (fCall 2 f__law_trees [] (fCons (fVar 3) (fCons (fCall 1 f__law_rising [] (fCons (fLc (fEnum (fVar 4)) [9, 10] (fgTp (fgsCons (fgNm 9) (fgsCons (fgNm 10) fgsNil))) (fBinT dNotInX (fVar 10) (fSl (fVar 4) fNone (fSome (fVar 9)))) (fVar 10)) fNil)) fNil))) [none, some .st, x2, some (txs ns), some (txs lk), some F, x6, x7, x8, x9, x10, x11] = .nx [none, some .st, x2, some (txs ns), some (txs lk), some F, some (.lst (T.map ancD)), x7, x8, x9, x10, x11] := by
    refine setE (callE (ds := [txs ns, txs (rise (dd [] lk))]) (consE rfl (consE (callE (ds := [txs (dd [] lk)]) (consE (lcE (ds := pairsD 0 (lk.map .str)) (enumE (d := txs lk) rfl rfl) (by rw [pairsD_length, List.length_map]; unfold LIM; omega) (dd_run ho lk [] rfl)) rfl) rfl (by rw [rising_eq]; exact v_lrising (by omega))) rfl)) rfl ?_)
    rw [trees_eq, hT, hlf]
    have := v_treesG (tp := false) (names := ns) (looks := rise (dd [] lk)) hg hn hor (by omega) hrl (Nat.le_trans (len_pow (Nat.le_trans (by rw [← hlf]; exact hlfl) hl) hl (by rw [← hlf]; exact hlfl)) (by decide))
    exact this
  have t1 : fOrT (fBinT dNeX (fBlt dLen (fCons (fVar 5) fNil)) (fBlt dLen (fCons (fVar 6) fNil))) (fNotT (fVal (fBlt dAll (fCons (fLc (fIter (fVar 6)) [11] (fgNm 11) fYes (fBin dEqX (fCountX (fVar 5) (fVar 11)) (fC (.int 1)))) fNil)))) [none, some .st, x2, some (txs ns), some (txs lk), some F, some (.lst (T.map ancD)), x7, x8, x9, x10, x11] = .ok false := by
    refine orTF (binTE (x := .int ((fnd ns lk).length : Nat)) (y := .int (T.length : Nat)) (bltE (consE rfl rfl) ?_) (bltE (consE rfl rfl) ?_) ?_) (notTE (k := true) (valE (bltE (xs := [.lst (T.map fun _ => .bl true)]) (consE (lcE (ds := T.map ancD) (iterE rfl rfl) (by rw [List.length_map]; unfold LIM; omega) ?_) rfl) (all_true T))))
    · rw [hF]
      show some (D.int ((fnd ns lk).map _).length) = _
      rw [List.length_map]
    · show some (D.int (T.map ancD).length) = _
      rw [List.length_map]
    · exact neI_f (by rw [hp.length_eq])
    · refine lc_map ancD (fun _ => .bl true) T fun r hr => ⟨_, rfl, binE (x := .int 1) (y := .int 1) ?_ rfl rfl⟩
      have hc := v_count (ns := ns) (hs := fnd ns lk) (r := r) hn (fun t ht => (kT t (hp.mem_iff.mp ht)).1) (fun t ht => oT t (hp.mem_iff.mp ht)) (hp.nodup_iff.mpr (by rw [hT]; refine (trs_nodup ?_ ns).filter _; exact clock_nodup hg (by rw [hlf]; exact ((rise_perm _).nodup_iff.mpr (dd_nodup _ _)).filter _) fun x hx => by rw [hlf] at hx; exact (lf_mem.mp hx).2)) (hp.mem_iff.mpr hr)
      rw [hF]
      show ((ofO (countX ((fnd ns lk).map fun t => ancD (sortK t)) (ancD r))).bind fun j => Res.ok (D.int (j : Nat))) = _
      rw [hc]
      rfl
  have t2 : fAndT (fVal (fBlt dAll (fCons (fLc (fIter (fVar 3)) [7] (fgNm 7) fYes (fBin dInX (fVar 7) (fVar 4))) fNil))) (fBinT dNeX (fBlt dLen (fCons (fVar 5) fNil)) (fBin dIdx (fLst (fCons (fC (.int 1)) (fCons (fC (.int 1)) (fCons (fC (.int 3)) (fCons (fC (.int 16)) (fCons (fC (.int 125)) fNil)))))) (fBlt dLen (fCons (fVar 3) fNil)))) [none, some .st, x2, some (txs ns), some (txs lk), some F, some (.lst (T.map ancD)), x7, x8, x9, x10, x11] = .ok false := by
    have ea : fVal (fBlt dAll (fCons (fLc (fIter (fVar 3)) [7] (fgNm 7) fYes (fBin dInX (fVar 7) (fVar 4))) fNil)) [none, some .st, x2, some (txs ns), some (txs lk), some F, some (.lst (T.map ancD)), x7, x8, x9, x10, x11] = .ok (ns.all fun x => decide (x ∈ lk)) := by
      refine valE (bltE (xs := [.lst (ns.map fun x => .bl (decide (x ∈ lk)))]) (consE (lcE (ds := ns.map .str) (iterE rfl rfl) (by rw [List.length_map]; unfold LIM; omega) ?_) rfl) (all_map _ ns))
      exact lc_map D.str (fun x => .bl (decide (x ∈ lk))) ns fun x hx => ⟨_, rfl, binE (x := .str x) (y := txs lk) rfl rfl (dIn_strs (ok x hx) ho)⟩
    cases hall : ns.all fun x => decide (x ∈ lk) with
    | false => rw [hall] at ea; exact andTF ea
    | true =>
      rw [hall] at ea
      have hin : ∀ x ∈ ns, x ∈ lk := fun x hx => of_decide_eq_true (List.all_eq_true.mp hall x hx)
      have hm : (fnd ns lk).length = many ns.length := by
        rw [← trees_many hg hn hl]
        exact (hgs_perm (lf := ns) (looks := lk) hg hn (by omega) hn (fun x hx => hx) fun x hx => ⟨fun _ => hin x hx, fun _ => hx⟩).length_eq
      refine andTT ea (binTE (x := .int ((fnd ns lk).length : Nat)) (y := .int (many ns.length : Nat)) (bltE (consE rfl rfl) ?_) (binE (x := .lst [.int 1, .int 1, .int 3, .int 16, .int 125]) (y := .int (ns.length : Nat)) (lstE rfl (show 5 ≤ 1000 by decide)) (bltE (consE rfl rfl) ?_) (many_ix _ hl)) ?_)
      · rw [hF]
        show some (D.int ((fnd ns lk).map _).length) = _
        rw [List.length_map]
      · show some (D.int (ns.map D.str).length) = _
        rw [List.length_map]
      · exact neI_f (by rw [hm])
  have hn0 := fnd_nil hg hn hl
  have eg : f_hangings [txs ns, .lst []] = some ((fnd ns []).map fun t => hangD (sortK t)) := v_hangingsT (tp := false) (tq := false) (looks := []) hg hn (by omega) (fun x hx => nomatch hx) (by decide) (Nat.le_trans (len_pow (Nat.le_trans (filt_le hn []) hl) hl (filt_le hn [])) (by decide))
  have t3 : fNotT (fVal (fBlt dAll (fCons (fLc (GF.fGen 2 f_hangings (fCons (fVar 3) (fCons (fLst fNil) fNil))) [8] (fgNm 8) fYes (fIsC "Hanging" (fVar 8))) fNil))) [none, some .st, x2, some (txs ns), some (txs lk), some F, some (.lst (T.map ancD)), x7, x8, x9, x10, x11] = .ok false := by
    refine notTE (k := true) (valE (bltE (xs := [.lst ((fnd ns []).map fun _ => .bl true)]) (consE (lcE (ds := (fnd ns []).map fun t => hangD (sortK t)) (genE (ds := [txs ns, .lst []]) (consE rfl (consE (lstE rfl (show 0 ≤ 1000 by decide)) rfl)) rfl eg) (by rw [List.length_map, hn0, List.length_singleton]; decide) ?_) rfl) (all_true _)))
    exact lc_map (fun t => hangD (sortK t)) (fun _ => .bl true) _ fun t _ => ⟨_, rfl, isCE rfl⟩
  have t4 : fBinT dNeDL (fCall 2 f__law_found [] (fCons (fVar 3) (fCons (fLst fNil) fNil))) (fLst (fCons (fBlt dDict (fCons (fLc (fIter (fCall 1 f__law_rising [] (fCons (fVar 3) fNil))) [7] (fgNm 7) fYes (fTup (fCons (fVar 7) (fCons (fC (.str "clock")) fNil)))) fNil)) fNil)) [none, some .st, x2, some (txs ns), some (txs lk), some F, some (.lst (T.map ancD)), x7, x8, x9, x10, x11] = .ok false := by
    obtain ⟨R, hR⟩ : ∃ R : Anc, R = (rise ns).map fun x => (x, ("clock" : Str)) := ⟨_, rfl⟩
    have kR : keys R = rise ns := by rw [hR]; unfold keys; rw [List.map_map]; exact List.map_id' _
    have nR : (keys R).Nodup := by rw [kR]; exact (rise_perm ns).nodup_iff.mpr hn
    have hk0 : keys (ns.map fun x => (x, ("clock" : Str))) = ns := by unfold keys; rw [List.map_map]; exact List.map_id' ns
    have e0 : sortK (ns.map fun x => (x, ("clock" : Str))) = R := by
      unfold sortK
      rw [hk0, hR]
      refine List.map_congr_left fun x hx => ?_
      have hnk : (keys (ns.map fun x => (x, ("clock" : Str)))).Nodup := by rw [hk0]; exact hn
      rw [get_of (look_of hnk (List.mem_map.mpr ⟨x, mem_rise.mp hx, rfl⟩))]
    have ef : f__law_found [txs ns, .lst []] = .ok (.lst [ancD R]) := by
      have := v_found (tp := false) (tq := false) (ns := ns) (looks := []) hg hn (by omega) (fun x hx => nomatch hx) (by decide) (Nat.le_trans (len_pow (Nat.le_trans (filt_le hn []) hl) hl (filt_le hn [])) (by decide)) (by rw [hn0, List.length_singleton]; decide)
      rw [hn0] at this
      rw [← e0]
      exact this
    refine binTE (x := .lst [ancD R]) (y := .lst [ancD R]) (callE (ds := [txs ns, .lst []]) (consE rfl (consE (lstE rfl (show 0 ≤ 1000 by decide)) rfl)) rfl ef) (lstE (consE (bltE (xs := [.lst (R.map fun p => .tup [.str p.1, .str p.2])]) (consE (lcE (ds := (rise ns).map .str) (iterE (callE (ds := [txs ns]) (consE rfl rfl) rfl (by rw [rising_eq]; exact v_lrising (by omega))) rfl) (by rw [List.length_map, (rise_perm ns).length_eq]; unfold LIM; omega) ?_) rfl) (dDict_map nR)) rfl) (show 1 ≤ 1000 by decide)) ?_
    · have e1 : (R.map fun p => D.tup [.str p.1, .str p.2]) = (rise ns).map fun x => D.tup [.str x, .str "clock"] := by rw [hR, List.map_map]; rfl
      rw [e1]
      exact lc_map D.str (fun x => D.tup [.str x, .str "clock"]) (rise ns) fun x hx => ⟨_, rfl, tupE rfl (show 2 ≤ 1000 by decide)⟩
    · have oR : okK (mapD .str R) = true := okK_str fun p hp => by
        rw [hR] at hp
        obtain ⟨x, _, rfl⟩ := List.mem_map.mp hp
        exact clock_ok
      have eR : eqDD (mapD .str R) (mapD .str R) = true := (eqDD_str nR (List.Perm.refl _)).mpr fun x _ => rfl
      show (if (okK (mapD D.str R) && okK (mapD D.str R) && eqDD (mapD .str R) (mapD .str R) && true) = true then some (D.bl false) else _) = _
      rw [oR, eR]
      rfl
  rw [← hF]
  exact ⟨_, seqN e6 (seqN (ifsF t1 rfl) (seqN (ifsF t2 rfl) (seqN (ifsF t3 rfl) (ifsF t4 rfl))))⟩
end
theorem upsE {f : FS} {xq : XQ} {de : DE} {s s' : Ev} {n : Nat} (h : f s = .nx s') (q : de.nx s' n) : upS f xq de s n := by
  unfold upS
  rw [h]
  exact q
abbrev QQ : List Str := [("qq" : Str)]
theorem M_law : B_law (fun _ _ => False) { nx := fun _ _ => False, rt := fun d _ => d = .bl true } (none :: some .st :: List.replicate (N_law.length - 2) none) 0 := by
  unfold B_law
  refine seqM (forU (i := fRange1 (fC (.int 3))) (ds := (List.range 3).map fun i => .int (i : Nat)) rfl ?_)
  refine sfor_acc (fun i : Nat => .int (i : Nat)) (fun acc s n => n ≤ 500 * acc.length ∧ ∃ x2 x3 x4 x5 x6 x7 x8 x9 x10 x11 : Option D, s = [none, some .st, x2, x3, x4, x5, x6, x7, x8, x9, x10, x11]) (List.range 3) ⟨Nat.le_refl _, _, _, _, _, _, _, _, _, _, _, rfl⟩ (fun s' n' _ => rfl) ?_
  rintro acc turn post s n de' e ⟨hn, x2, x3, x4, x5, x6, x7, x8, x9, x10, x11, rfl⟩ hq
  have hlt := len_pre e
  rw [List.length_range] at hlt
  refine ⟨_, rfl, ?_⟩
  try dsimp only
  try simp only [List.set_cons_zero, List.set_cons_succ]
  -- the names
  refine seqM (setM (callMM (consU rfl (consM (callM (ds := [.st, .int 5]) rfl rfl (take_run (by decide) (by decide) (by omega) fun r r0 r1 => nilU ⟨rfl, ?_⟩))))))
  obtain ⟨j, rfl⟩ := nat_of r0
  refine ⟨j, rfl, by omega, fun ys hys => ?_⟩
  obtain ⟨ns, hns⟩ : ∃ ns, ns = ys.take j := ⟨_, rfl⟩
  rw [← hns]
  have hnn : ns.Nodup := by rw [hns]; exact (hys.nodup_iff.mpr (by decide)).sublist (List.take_sublist _ _)
  have hnm : ∀ x ∈ ns, x ∈ NAMES := fun x hx => hys.mem_iff.mp (List.mem_of_mem_take (hns ▸ hx))
  have hg : ∀ x ∈ ns, Good x := fun x hx => names_good (hnm x hx)
  have ok : ∀ x ∈ ns, sOk x := fun x hx => (hg x hx).ok
  have hnl : ns.length ≤ 4 := by rw [hns, List.length_take]; omega
  try dsimp only
  try simp only [List.set_cons_zero, List.set_cons_succ]
  have hml : (ns ++ ns.take 1 ++ QQ).length ≤ 6 := by rw [List.length_append, List.length_append, List.length_take, List.length_singleton]; omega
  have hmo : ∀ x ∈ ns ++ ns.take 1 ++ QQ, sOk x := fun x hx => by
    rcases List.mem_append.mp hx with hx | hx
    · rcases List.mem_append.mp hx with hx | hx
      · exact ok x hx
      · exact ok x (List.mem_of_mem_take hx)
    · rw [List.mem_singleton.mp hx]; decide +kernel
  have e4 : fCons (fVar 1) (fCons (fBin dAdd (fBin dAdd (fVar 3) (fSl (fVar 3) fNone (fSome (fC (.int 1))))) (fLst (fCons (fC (.str "qq")) fNil))) fNil) [none, some .st, some (.int (turn : Nat)), some (txs ns), x4, x5, x6, x7, x8, x9, x10, x11] = .ok [.st, txs (ns ++ ns.take 1 ++ QQ)] := by
    refine consE rfl (consE (binE (x := txs (ns ++ ns.take 1)) (y := .lst [.str "qq"]) (binE (x := txs ns) (y := txs (ns.take 1)) rfl (slE (d := txs ns) (i := none) (j := some 1) rfl rfl rfl ?_) ?_) (lstE rfl (show 1 ≤ 1000 by decide)) ?_) rfl)
    · show some (D.lst (cutL (ns.map .str) none (some ((1 : Nat) : Int)))) = _
      rw [cut_to, ← List.map_take]
    · show dAdd (.lst (ns.map .str)) (.lst ((ns.take 1).map .str)) = _
      rw [addL (by rw [List.length_map, List.length_map, List.length_take]; omega), ← List.map_append]
    · show dAdd (.lst ((ns ++ ns.take 1).map .str)) (.lst [.str "qq"]) = _
      rw [addL (by rw [List.length_map, List.length_append, List.length_take]; show _ + 1 ≤ 1000; omega)]
      show some (D.lst (List.map D.str (ns ++ ns.take 1) ++ List.map D.str QQ)) = _
      rw [← List.map_append]
  refine seqM (setM (callMM (consU rfl (consM (lstM (consU (d := .lst []) (lstE rfl (show 0 ≤ 1000 by decide)) (consU rfl (consM (callM (ds := [.st, txs ns]) rfl rfl ⟨ns.map .str, rfl, by rw [List.length_map]; omega, by omega, fun us hus => consM (callM (ds := [.st, txs (ns ++ ns.take 1 ++ QQ)]) e4 rfl (mix_strs (by omega) hmo (by rw [List.length_map]; omega) fun ms hms => nilU ⟨(show 4 ≤ 1000 by decide), nilU ⟨rfl, one_run (show 0 < 4 by decide) (show 4 ≤ 1000 by decide) (by rw [List.length_map]; omega) fun x hx => ?_⟩⟩))⟩)))))))))
  obtain ⟨lk, rfl, ho, hlk⟩ : ∃ lk : List Str, x = txs lk ∧ (∀ y ∈ lk, sOk y) ∧ lk.length ≤ 100 := by
    simp only [List.mem_cons, List.not_mem_nil, or_false] at hx
    rcases hx with rfl | rfl | rfl | rfl
    · exact ⟨[], rfl, (fun y hy => nomatch hy), by decide⟩
    · exact ⟨ns, rfl, ok, by omega⟩
    · obtain ⟨zs, hz, rfl⟩ := List.sublist_map_iff.mp hus
      exact ⟨zs, rfl, fun y hy => ok y (hz.subset hy), by have := hz.length_le; omega⟩
    · exact ⟨ms, rfl, fun y hy => hmo y (hms.mem_iff.mp hy), by have := hms.length_eq; omega⟩
  try dsimp only
  try simp only [List.set_cons_zero, List.set_cons_succ]
  have nb : n + 1 + 16 + (ns.map D.str).length + (ns ++ ns.take 1 ++ QQ).length + 1 ≤ n + 40 := by rw [List.length_map]; omega
  refine seqM (setM (callMM (consM (callM (ds := [.st, .lst [txs ns, .tup (ns.map .str)]]) rfl rfl (one_run (show 0 < 2 by decide) (show 2 ≤ 1000 by decide) (by omega) fun d1 hd1 => consM (callM (ds := [.st, .lst [txs lk, .tup (lk.map .str)]]) rfl rfl (one_run (show 0 < 2 by decide) (show 2 ≤ 1000 by decide) (by omega) fun d2 hd2 => nilU ⟨rfl, ?_⟩)))))))
  obtain ⟨tp, rfl⟩ : ∃ tp, d1 = rowD tp (ns.map .str) := by
    simp only [List.mem_cons, List.not_mem_nil, or_false] at hd1
    rcases hd1 with rfl | rfl
    · exact ⟨false, rfl⟩
    · exact ⟨true, rfl⟩
  obtain ⟨tq, rfl⟩ : ∃ tq, d2 = rowD tq (lk.map .str) := by
    simp only [List.mem_cons, List.not_mem_nil, or_false] at hd2
    rcases hd2 with rfl | rfl
    · exact ⟨false, rfl⟩
    · exact ⟨true, rfl⟩
  have ef := v_found (tp := tp) (tq := tq) hg hnn (by omega) ho hlk (Nat.le_trans (len_pow (Nat.le_trans (filt_le hnn lk) hnl) hnl (filt_le hnn lk)) (by decide)) (Nat.le_trans (fnd_len hg hnn hnl) (by decide))
  refine ofM (by rw [List.append_nil]; exact ef) ?_
  try dsimp only
  try simp only [List.set_cons_zero, List.set_cons_succ]
  obtain ⟨y6, et⟩ := tail_run (lk := lk) hg hnn hnl ho hlk (x2 := some (.int (turn : Nat))) (x6 := x6) (x7 := x7) (x8 := x8) (x9 := x9) (x10 := x10) (x11 := x11)
  refine upsE et (hq _ _ ⟨?_, _, _, _, _, _, _, _, _, _, _, rfl⟩)
  have hla : (acc ++ [turn]).length = acc.length + 1 := by rw [List.length_append, List.length_singleton]
  rw [hla]
  omega
end DL.K08
namespace DL
open PySem PySem.Spec PyProof.Rows L2
theorem only_tb [t : TabC] (ht : t.T = []) {H : Hp} (h : Only H) : TbA H := by
  refine ⟨fun p hp => ?_, fun b ps e => ?_⟩
  · rw [ht] at hp
    cases hp
  · rcases h b with z | ⟨o, xs, z⟩ <;> rw [z] at e <;> cases e
/-- what may leave, of any program and world -/
def CXU : CXT := fun outer H s E e s' => ∃ P w, CX P w outer H s E e s'
theorem cx_end (H : Hp) (s : Shared) (e : Value) (s' : Shared) (h : CXU [] H s (fun _ _ _ => False) e s') : False := by
  obtain ⟨_, _, _, _, _, _, _, _, _, _, _, _, _, _, z⟩ := h
  exact z
theorem FnOk.any {P : Program} {w : World} {K : PySem.W.Frag} {mg : Str → Option Value} {base : Heap} {k : Nat} {f : Addr} {fd : FuncData} {ps : List Str} {sp : Sp} (F : FnOk P w K mg base (CX P w) k f fd ps sp) : FnOk P w K mg base CXU k f fd ps sp :=
  ⟨F.len, fun A outer s H args us vs Q E hr e0 hb r h => codeAny_mono (F.run A outer s H args us vs Q E hr e0 hb r h) fun r s' q => by
    cases r with
    | ok fl => cases fl <;> exact q
    | error e => exact ⟨P, w, q⟩⟩
theorem map3 {α β γ δ : Type} {o : Option α} {f : α → β} {g : α → γ} {h : α → δ} {a : β} {b : γ} {c : δ} (h1 : o.map f = some a) (h2 : o.map g = some b) (h3 : o.map h = some c) : o.map (fun s => (f s, g s, h s)) = some (a, b, c) := by
  cases o with
  | none => cases h1
  | some s => rw [Option.map_some, Option.some.inj h1, Option.some.inj h2, Option.some.inj h3]
end DL
namespace DL
/-- the state's words, in two halves -/
theorem map22 {S X Y U V : Type} {o : Option S} {f : S → ((X × Y) × U) × V} {x : X} {y : Y} {u : U} {v : V} (h1 : o.map (fun s => (f s).1.1.2) = some y) (h2 : o.map (fun s => ((f s).1.1.1, (f s).1.2, (f s).2)) = some (x, u, v)) : o.map f = some (((x, y), u), v) := by
  cases o with
  | none => cases h1
  | some s =>
    have e1 : (f s).1.1.2 = y := Option.some.inj h1
    have e2 : ((f s).1.1.1, (f s).1.2, (f s).2) = (x, u, v) := Option.some.inj h2
    show some (f s) = _
    cases e1
    cases e2
    rfl
end DL
namespace DL
open PySem PySem.Spec PyProof.Rows L2
variable [TabC]
/-! ### [..] * k -/
end DL
namespace DL.K08
open PySem PySem.Spec PyProof.Rows L2 HX
abbrev hk : PySem.W.Hook := hookS R.prog 6 fa fn er tf ex sf
theorem ob_eq (s : PySem.W.SharedT) : ob s = hk.obs s.abs := obsS_eq (HandSHeadRun.getT_eq s)
theorem run_c (w : World) (os : OsState) : (endS w os).map ob = some (hk.val w) := map22 (run_c1 w os) (run_c2 w os)
theorem run (w : World) : HandSHeadRun.RunEq R vw hk ob 20000 loose w := fun os => map3 (run_a w os) (run_b w os) (run_c w os)
def tabN (w : World) : TabC := ⟨[], w⟩
theorem scTake : FnScope ["_law_state", "_law_many", "_law_cell", "_law_digit", "_law_mixed"] ["_law_state", "_law_many"] (defScope (top 20)) := ⟨rfl, rfl, rfl, by decide +kernel, rfl, by decide +kernel, by decide +kernel⟩
theorem scFresh : FnScope ["_law_script"] ["_law_script"] (defScope (top 19)) := ⟨rfl, rfl, rfl, by decide +kernel, rfl, by decide +kernel, by decide +kernel⟩
theorem ok_take [TabC] {P : Program} {w : World} {K : PySem.W.Frag} {mg : Str → Option Value} {base : Heap} {f : Addr} {fd : FuncData} (F : FunD K "_law_take" "_law_take" (defArgs (top 20)) (defBody (top 20)) (defScope (top 20)) [] [] f fd) (hg : mg "_law_take" = some (.ref f)) (f_len : mg "len" = none) (f_abs : mg "abs" = none) (f_int : mg "int" = none) :
    GFn P w K mg base "_law_take" 1 ["_law_state", "_law_many"] (lift K 2 sp__law_take) := by
  refine ⟨f, fd, hg, F.kp, F.bindsN (fun _ _ _ _ _ _ us hl => match us, hl with | [_, _], _ => rfl), FnOk.loud (F.ok scTake (fun vs H Q E h => ?_) (fun cdv A outer s H vs Q E hr h => ⟨t_take K, PSs.nox ?_, pure_take _ vs H Q E h⟩))⟩
  · obtain ⟨aS, A0, ds, n, xq, hl, r, _⟩ := h
    rw [r.length, hl]
    rfl
  · unfold t_take tPut tS
    exact pss_cons (ps_asg (pe_op op_add (pe_ix ix_list (pv 0) pe_int (fun _ _ => rfl)) pe_int) (pg_sub (pv 0) pe_int set_list)) (pss_cons (ps_while PassesOwn.never (PW.pt (pw_and (pt_cmpR op_eq (pe_ix ix_list (pv 0) pe_int (fun _ _ => rfl)) pe_int (nomark _)) (pw_and1 (pt_cmpR op_lt (pe_ix ix_list (pv 0) pe_int (fun _ _ => rfl)) (pe_callB call_len rfl f_len boot_len (pa_cons (pe_ix ix_list (pv 0) pe_int (fun _ _ => rfl)) pa_nil)) (nomark _))))) (pss_cons (ps_set (i := 2) scTake.nd rfl (.inl rfl) (pe_callB call_abs rfl f_abs boot_abs (pa_cons (pe_ix ix_list (pe_ix ix_list (pv 0) pe_int (fun _ _ => rfl)) (pe_ix ix_list (pv 0) pe_int (fun _ _ => rfl)) (fun _ _ => rfl)) pa_nil))) (pss_cons (ps_asg (pe_op op_add (pe_ix ix_list (pv 0) pe_int (fun _ _ => rfl)) pe_int) (pg_sub (pv 0) pe_int set_list)) (pss_one (ps_if (pt_cmpR op_ge (pv 2) (pe_op op_pow pe_int pe_int) (nomark _)) (pss_one (ps_asg (pv 2) (pg_sub (pv 0) pe_int set_list))) (pss_one (ps_asg (pe_op op_mod (pe_callTy call_int1 rfl f_int boot_int (pa_cons (pe_op op_add (pe_op op_add (pe_op op_mul (pe_ix ix_list (pv 0) pe_int (fun _ _ => rfl)) pe_int) (pv 2)) pe_int) pa_nil)) pe_int) (pg_sub (pv 0) pe_int set_list)))))))) (pss_cons (ps_if (pt_cmpR op_gt (pe_ix ix_list (pv 0) pe_int (fun _ _ => rfl)) pe_int (nomark _)) (pss_cons (ps_set (i := 3) scTake.nd rfl (.inl rfl) (pe_op op_mod (pe_callTy call_int1 rfl f_int boot_int (pa_cons ((pe_ix ix_list (pv 0) pe_int (fun _ _ => rfl))) pa_nil)) (pv 1))) (pss_cons (ps_asg (pe_op op_fdivW (pe_ix ix_list (pv 0) pe_int (fun _ _ => rfl)) (pv 1)) (pg_sub (pv 0) pe_int set_list)) (pss_one (ps_ret (pv 3))))) pss_nil) (pss_cons (ps_set (i := 4) scTake.nd rfl (.inl rfl) (pe_op op_mod (pe_callTy call_int1 rfl f_int boot_int (pa_cons (pe_op op_pow (pe_op op_add (pe_op op_add (pe_ix ix_list (pv 0) pe_int (fun _ _ => rfl)) (pe_op op_mul pe_int (pe_ix ix_list (pv 0) pe_int (fun _ _ => rfl)))) pe_int) pe_int) pa_nil)) pe_int)) (pss_cons (ps_set (i := 4) scTake.nd rfl (.inl rfl) (pe_op op_mod (pe_callTy call_int1 rfl f_int boot_int (pa_cons (pe_op op_pow (pe_op op_add (pv 4) (pe_op op_mul pe_int (pe_ix ix_list (pv 0) pe_int (fun _ _ => rfl)))) pe_int) pa_nil)) pe_int)) (pss_one (ps_ret (pe_op op_mod (pe_callTy call_int1 rfl f_int boot_int (pa_cons (pe_op op_fdivW (pv 4) pe_int) pa_nil)) (pv 1))))))))
theorem ok_fresh [TabC] {P : Program} {w : World} {K : PySem.W.Frag} {mg : Str → Option Value} {base : Heap} {f : Addr} {fd : FuncData} (F : FunD K "_law_fresh" "_law_fresh" (defArgs (top 19)) (defBody (top 19)) (defScope (top 19)) [] [] f fd) (hg : mg "_law_fresh" = some (.ref f)) (f_list : mg "list" = none) : ∃ f fd, mg "_law_fresh" = some (.ref f) ∧ PySem.W.keepIn K (.ref f) = true ∧ Binds K fd ["_law_script"] [] ∧ FnOk P w K mg base CX0 1 f fd ["_law_script"] (spFresh K) := by
  refine ⟨f, fd, hg, F.kp, F.bindsN (fun _ _ _ _ _ _ us hl => match us, hl with | [_], _ => rfl), F.ok scFresh (fun vs H Q E h => ?_) (fun cdv A outer s H vs Q E hr h => ⟨t_fresh K, PSs.nox ?_, pure_fresh vs H Q E h⟩)⟩
  · obtain ⟨a, ns, rfl, _⟩ := h
    rfl
  · unfold t_fresh
    exact pss_one (ps_ret (pe_lst (pa_cons (pe_callTy call_list_of rfl f_list boot_list (pa_cons (pe_slice sl_list (pv 0) po_none (po_some pe_int)) pa_nil)) (pa_cons pe_int (pa_cons pe_int (pa_cons pe_int (pa_cons pe_int pa_nil)))))))
theorem facts {P : Program} {w : World} {K : PySem.W.Frag} {h : Heap} {mg : Str → Option Value} {f : Addr} (X : K.In h) (G : h.Ns mainGlobals mg) (hfa : mg ("law" : Str) = some (.ref f)) (c : SaysS P fa fn er tf ex sf w h K) (ht : (P.main.scope.names.lookup ("super" : Str)).isSome = false) :
    ∃ fd : FuncData, (∀ (s : Shared) (v : Value), BindsTo s fd ⟨[v], []⟩ [("_law_script", v)]) ∧ ∀ base : Heap, K.In base → base.Ns mainGlobals mg → FnOk P w K mg base CXU k_law f fd ["_law_script"] (@spLaw (tabN w) K) := by
  letI : TabC := tabN w
  have hT : TabC.T = [] := rfl
  have cd : He.SaysD fa fn K := c.d
  have fc := fun (i : Nat) {f : He.Fa} (e : fa[i]? = some f) => cd.fact i e
  have gl__law_fresh : mg "_law_fresh" = some (.ref (He.ga K "_law_fresh")) := He.glo_ok X G (fc 0 rfl)
  have gl__law_take : mg "_law_take" = some (.ref (He.ga K "_law_take")) := He.glo_ok X G (fc 1 rfl)
  have gl__law_mix : mg "_law_mix" = some (.ref (He.ga K "_law_mix")) := He.glo_ok X G (fc 2 rfl)
  have gl__law_names : mg "_law_names" = some (.ref (He.ga K "_law_names")) := He.glo_ok X G (fc 3 rfl)
  have gl__law_some : mg "_law_some" = some (.ref (He.ga K "_law_some")) := He.glo_ok X G (fc 4 rfl)
  have gl__law_one : mg "_law_one" = some (.ref (He.ga K "_law_one")) := He.glo_ok X G (fc 5 rfl)
  have gl_is_name : mg "is_name" = some (.ref (He.ga K "is_name")) := He.glo_ok X G (fc 6 rfl)
  have gl_is_anchor : mg "is_anchor" = some (.ref (He.ga K "is_anchor")) := He.glo_ok X G (fc 7 rfl)
  have gl_rising : mg "rising" = some (.ref (He.ga K "rising")) := He.glo_ok X G (fc 8 rfl)
  have gl_way_up : mg "way_up" = some (.ref (He.ga K "way_up")) := He.glo_ok X G (fc 9 rfl)
  have gl_round_from : mg "round_from" = some (.ref (He.ga K "round_from")) := He.glo_ok X G (fc 10 rfl)
  have gl_check_rounds : mg "check_rounds" = some (.ref (He.ga K "check_rounds")) := He.glo_ok X G (fc 11 rfl)
  have gl_hangings : mg "hangings" = some (.ref (He.ga K "hangings")) := He.glo_ok X G (fc 12 rfl)
  have gl__law_found : mg "_law_found" = some (.ref (He.ga K "_law_found")) := He.glo_ok X G (fc 13 rfl)
  have gl__law_rising : mg "_law_rising" = some (.ref (He.ga K "_law_rising")) := He.glo_ok X G (fc 14 rfl)
  have gl__law_with : mg "_law_with" = some (.ref (He.ga K "_law_with")) := He.glo_ok X G (fc 15 rfl)
  have gl__law_is_tree : mg "_law_is_tree" = some (.ref (He.ga K "_law_is_tree")) := He.glo_ok X G (fc 16 rfl)
  have gl__law_trees : mg "_law_trees" = some (.ref (He.ga K "_law_trees")) := He.glo_ok X G (fc 17 rfl)
  have gl_law : mg "law" = some (.ref (He.ga K "law")) := He.glo_ok X G (fc 18 rfl)
  have f_abs : mg "abs" = none := He.free_ok X G (fc 19 rfl)
  have f_all : mg "all" = none := He.free_ok X G (fc 20 rfl)
  have f_dict : mg "dict" = none := He.free_ok X G (fc 21 rfl)
  have f_enumerate : mg "enumerate" = none := He.free_ok X G (fc 22 rfl)
  have f_int : mg "int" = none := He.free_ok X G (fc 23 rfl)
  have f_isinstance : mg "isinstance" = none := He.free_ok X G (fc 24 rfl)
  have f_len : mg "len" = none := He.free_ok X G (fc 25 rfl)
  have f_list : mg "list" = none := He.free_ok X G (fc 26 rfl)
  have f_range : mg "range" = none := He.free_ok X G (fc 27 rfl)
  have f_str : mg "str" = none := He.free_ok X G (fc 28 rfl)
  have f_super : mg "super" = none := He.free_ok X G (fc 29 rfl)
  have f_tuple : mg "tuple" = none := He.free_ok X G (fc 30 rfl)
  have c_CLOCK : ∃ t, mg "CLOCK" = some (.str "clock" t) := He.str_ok X G (fc 31 rfl)
  have c_LETTERS : ∃ t, mg "LETTERS" = some (.str "abcdefghijklmnopqrstuvwxyz" t) := He.str_ok X G (fc 32 rfl)
  have c_MOST_LETTERS : ∃ t, mg "MOST_LETTERS" = some (.int 8 t) := He.int_ok X G (fc 33 rfl)
  have gl_Hanging : mg "Hanging" = some (.ref (He.ga K "Hanging")) := He.glo_ok X G (fc 34 rfl)
  have cl_Hanging : Cls K (He.ga K "Hanging") := He.cls_ok (fc 35 rfl)
  have mk_Hanging : Mk K (He.ga K "Hanging") (He.ma K (He.ga K "Hanging") "__init__") := He.mkr_ok (fc 36 rfl)
  have me_Hanging_rows : Meth K (He.ga K "Hanging") "rows" (He.ma K (He.ga K "Hanging") "rows") := He.meth_ok (fc 37 rfl)
  have na_Hanging_anchors : NoAttr K (He.ga K "Hanging") "anchors" := He.noat_ok (fc 38 rfl)
  obtain ⟨fd__law_fresh, F__law_fresh⟩ := cd.def_ 0 rfl
  obtain ⟨fd__law_take, F__law_take⟩ := cd.def_ 1 rfl
  obtain ⟨fd__law_mix, F__law_mix⟩ := cd.def_ 2 rfl
  obtain ⟨fd__law_names, F__law_names⟩ := cd.def_ 3 rfl
  obtain ⟨fd__law_some, F__law_some⟩ := cd.def_ 4 rfl
  obtain ⟨fd__law_one, F__law_one⟩ := cd.def_ 5 rfl
  obtain ⟨fd_is_name, F_is_name⟩ := cd.def_ 6 rfl
  obtain ⟨fd_is_anchor, F_is_anchor⟩ := cd.def_ 7 rfl
  obtain ⟨fd_rising, F_rising⟩ := cd.def_ 8 rfl
  obtain ⟨fd_way_up, F_way_up⟩ := cd.def_ 9 rfl
  obtain ⟨fd_round_from, F_round_from⟩ := cd.def_ 10 rfl
  obtain ⟨fd_check_rounds, F_check_rounds⟩ := cd.def_ 11 rfl
  obtain ⟨fd_Hanging___init__, F_Hanging___init__⟩ := cd.def_ 12 rfl
  obtain ⟨fd_hangings, F_hangings⟩ := cd.def_ 13 rfl
  obtain ⟨fd_Hanging_rows, F_Hanging_rows⟩ := cd.def_ 14 rfl
  obtain ⟨fd__law_found, F__law_found⟩ := cd.def_ 15 rfl
  obtain ⟨fd__law_rising, F__law_rising⟩ := cd.def_ 16 rfl
  obtain ⟨fd__law_with, F__law_with⟩ := cd.def_ 17 rfl
  obtain ⟨fd__law_is_tree, F__law_is_tree⟩ := cd.def_ 18 rfl
  obtain ⟨fd__law_trees, F__law_trees⟩ := cd.def_ 19 rfl
  obtain ⟨fd_law, F_law⟩ := cd.def_ 20 rfl
  have el : f = He.ga K "law" := by have e := hfa.symm.trans gl_law; cases e; rfl
  subst el
  have bl := FunD.bindsA (ps := ["_law_script"]) F_law fun _ _ _ _ _ _ us hl => match us, hl with | [_], _ => rfl
  refine ⟨fd_law, fun s v => bl s [v] rfl, fun base _ _ => ?_⟩
  have X_BadRow : GEx P w K mg base "BadRow" 1 ["name"] := gex1 (d := eD 3 0 "BadRow" "BadRow.__init__" ["name"]) (slf0 := "self") (y := "name") X G (c.toSaysE.err 0 rfl) ht f_super rfl rfl rfl rfl (by decide +kernel) rfl rfl rfl ⟨_, rfl, rfl⟩ (by decide) (by decide) (by decide) (by decide) (fun _ _ _ _ _ _ _ => rfl)
    (fun F f L h1 h2 => by obtain ⟨n, q, ps, b, sc, cl, c⟩ := F; cases h1; cases h2; exact ⟨_, rfl⟩) (fun F f L h1 => by obtain ⟨n, q, ps, b, sc, cl, c⟩ := F; cases h1; rfl) (fun F f L h1 => by obtain ⟨n, q, ps, b, sc, cl, c⟩ := F; cases h1; rfl)
  have X_Round : GEx P w K mg base "Round" 1 ["names"] := gex1 (d := eD 4 0 "Round" "Round.__init__" ["names"]) (slf0 := "self") (y := "names") X G (c.toSaysE.err 1 rfl) ht f_super rfl rfl rfl rfl (by decide +kernel) rfl rfl rfl ⟨_, rfl, rfl⟩ (by decide) (by decide) (by decide) (by decide) (fun _ _ _ _ _ _ _ => rfl)
    (fun F f L h1 h2 => by obtain ⟨n, q, ps, b, sc, cl, c⟩ := F; cases h1; cases h2; exact ⟨_, rfl⟩) (fun F f L h1 => by obtain ⟨n, q, ps, b, sc, cl, c⟩ := F; cases h1; rfl) (fun F f L h1 => by obtain ⟨n, q, ps, b, sc, cl, c⟩ := F; cases h1; rfl)
  have hmore := c.more
  unfold ex at hmore
  have ht_0 := hmore
  have ins_Hanging : C8.InsC K (He.ga K "Hanging") := insB_ok cl_Hanging ht_0
  have G__law_take : GFn P w K mg base "_law_take" k__law_take ["_law_state", "_law_many"] (lift K 2 sp__law_take) := ok_take F__law_take gl__law_take f_len f_abs f_int
  have G__law_mix : GFn P w K mg base "_law_mix" k__law_mix ["_law_state", "_law_things"] (lift K 2 sp__law_mix) := gfn F__law_mix gl__law_mix sc__law_mix (fun _ _ _ _ _ _ us hl => match us, hl with | [_, _], _ => rfl) (d__law_mix (P := P) (w := w) (K := K) (mg := mg) (base := base) (G__law_take := G__law_take) (f_len := f_len) (f_list := f_list)) M__law_mix
  have G__law_names : GFn P w K mg base "_law_names" k__law_names ["_law_state", "_law_many"] (lift K 2 sp__law_names) := gfn F__law_names gl__law_names sc__law_names (fun _ _ _ _ _ _ us hl => match us, hl with | [_, _], _ => rfl) (d__law_names (P := P) (w := w) (K := K) (mg := mg) (base := base) (G__law_mix := G__law_mix)) M__law_names
  have G__law_some : GFn P w K mg base "_law_some" k__law_some ["_law_state", "_law_things"] (lift K 2 sp__law_some) := gfn F__law_some gl__law_some sc__law_some (fun _ _ _ _ _ _ us hl => match us, hl with | [_, _], _ => rfl) (d__law_some (P := P) (w := w) (K := K) (mg := mg) (base := base) (G__law_take := G__law_take)) M__law_some
  have G__law_one : GFn P w K mg base "_law_one" k__law_one ["_law_state", "_law_things"] (lift K 2 sp__law_one) := gfn F__law_one gl__law_one sc__law_one (fun _ _ _ _ _ _ us hl => match us, hl with | [_, _], _ => rfl) (d__law_one (P := P) (w := w) (K := K) (mg := mg) (base := base) (G__law_take := G__law_take) (f_len := f_len)) M__law_one
  have G_is_name : GFn P w K mg base "is_name" k_is_name ["thing"] (lift K 1 (FSp.of f_is_name)) := gfn F_is_name gl_is_name sc_is_name (fun _ _ _ _ _ _ us hl => match us, hl with | [_], _ => rfl) (d_is_name (P := P) (w := w) (K := K) (mg := mg) (base := base) (c_CLOCK := c_CLOCK) (c_LETTERS := c_LETTERS) (c_MOST_LETTERS := c_MOST_LETTERS) (f_all := f_all) (f_isinstance := f_isinstance) (f_len := f_len) (f_str := f_str)) meets
  have G_is_anchor : GFn P w K mg base "is_anchor" k_is_anchor ["thing", "names"] (lift K 2 (FSp.of f_is_anchor)) := gfn F_is_anchor gl_is_anchor sc_is_anchor (fun _ _ _ _ _ _ us hl => match us, hl with | [_, _], _ => rfl) (d_is_anchor (P := P) (w := w) (K := K) (mg := mg) (base := base) (c_CLOCK := c_CLOCK) (f_list := f_list)) meets
  have G_rising : GFn P w K mg base "rising" k_rising ["things"] (lift K 1 (FSp.of f_rising)) := gfn F_rising gl_rising sc_rising (fun _ _ _ _ _ _ us hl => match us, hl with | [_], _ => rfl) (d_rising (P := P) (w := w) (K := K) (mg := mg) (base := base) (f_len := f_len)) meets
  have G_way_up : GFn P w K mg base "way_up" k_way_up ["anchors", "name"] (lift K 2 (FSp.of f_way_up)) := gfn F_way_up gl_way_up sc_way_up (fun _ _ _ _ _ _ us hl => match us, hl with | [_, _], _ => rfl) (d_way_up (P := P) (w := w) (K := K) (mg := mg) (base := base) (c_CLOCK := c_CLOCK)) meets
  have G_round_from : GFn P w K mg base "round_from" k_round_from ["anchors", "name"] (lift K 2 (FSp.of f_round_from)) := gfn F_round_from gl_round_from sc_round_from (fun _ _ _ _ _ _ us hl => match us, hl with | [_, _], _ => rfl) (d_round_from (P := P) (w := w) (K := K) (mg := mg) (base := base) ) meets
  have G_check_rounds : GFn P w K mg base "check_rounds" k_check_rounds ["anchors"] (lift K 1 (FSp.of f_check_rounds)) := gfn F_check_rounds gl_check_rounds sc_check_rounds (fun _ _ _ _ _ _ us hl => match us, hl with | [_], _ => rfl) (d_check_rounds (P := P) (w := w) (K := K) (mg := mg) (base := base) (G_rising := G_rising) (G_round_from := G_round_from) (G_way_up := G_way_up) (X_Round := X_Round) (f_list := f_list)) meets
  have I_Hanging : FnOk P w K mg base (CX P w) k_Hanging___init__ (He.ma K (He.ga K "Hanging") "__init__") fd_Hanging___init__ ["self", "rows"] (liftI K "Hanging" 2 (FSp.of f_Hanging___init__)) := dfnI F_Hanging___init__ sc_Hanging___init__ (O' := [0]) (by decide) (fun cdv A outer s H E hr => (d_Hanging___init__ (P := P) (w := w) (K := K) (mg := mg) (base := base) (G_check_rounds := G_check_rounds) (G_is_anchor := G_is_anchor) (G_is_name := G_is_name) (G_rising := G_rising) (X_BadRow := X_BadRow) (cl_Hanging := cl_Hanging) (f_list := f_list) (na_Hanging_anchors := na_Hanging_anchors)) _ cdv A outer s H E hr) meetsI
  have K_Hanging_1 : GMk P w K mg base "Hanging" "Hanging" k_Hanging___init__ ["self", "rows"] [] (FSp.of f_Hanging___init__) := ⟨_, _, [], [], gl_Hanging, mk_Hanging, F_Hanging___init__.bindsN (fun _ _ _ _ _ _ us hl => match us, hl with | [_, _], _ => rfl), .nil, fun _ _ _ => RepL.nil, fun ds n Q xq h => runI_obj h, I_Hanging⟩
  have G_hangings : GF.GGn P w K mg base "hangings" k_hangings ["names", "looks"] (GF.relY f_hangings) := GF.ggn rfl F_hangings gl_hangings gsc_hangings (fun _ _ _ _ _ _ us hl => match us, hl with | [_, _], _ => rfl) (d_hangings (P := P) (w := w) (K := K) (mg := mg) (base := base) (G_way_up := G_way_up) (K_Hanging_1 := K_Hanging_1) (c_CLOCK := c_CLOCK) (f_len := f_len)) (fun ds ys _ h => GF.yle_run y_hangings h)
  have G_Hanging_rows : GMe P w K mg base "Hanging" "rows" k_Hanging_rows ["self"] [] (lift K 1 (FSp.of f_Hanging_rows)) := ⟨_, _, [], [], cl_Hanging, me_Hanging_rows, F_Hanging_rows.bindsN (fun _ _ _ _ _ _ us hl => match us, hl with | [_], _ => rfl), .nil, fun _ _ _ => RepL.nil, dfn F_Hanging_rows sc_Hanging_rows (O' := _) (fun cdv A outer s H E hr => (d_Hanging_rows (P := P) (w := w) (K := K) (mg := mg) (base := base) (cl_Hanging := cl_Hanging) (f_dict := f_dict) (na_Hanging_anchors := na_Hanging_anchors)) _ cdv A outer s H E hr) meets⟩
  have G__law_found : GFn P w K mg base "_law_found" k__law_found ["_law_names_here", "_law_looks"] (lift K 2 (FSp.of f__law_found)) := gfn F__law_found gl__law_found sc__law_found (fun _ _ _ _ _ _ us hl => match us, hl with | [_, _], _ => rfl) (d__law_found (P := P) (w := w) (K := K) (mg := mg) (base := base) (G_Hanging_rows := G_Hanging_rows) (G_hangings := G_hangings) (hT := hT)) meets
  have G__law_rising : GFn P w K mg base "_law_rising" k__law_rising ["_law_things"] (lift K 1 (FSp.of f__law_rising)) := gfn F__law_rising gl__law_rising sc__law_rising (fun _ _ _ _ _ _ us hl => match us, hl with | [_], _ => rfl) (d__law_rising (P := P) (w := w) (K := K) (mg := mg) (base := base) (f_len := f_len)) meets
  have G__law_with : GFn P w K mg base "_law_with" k__law_with ["_law_things", "_law_name", "_law_thing"] (lift K 3 (FSp.of f__law_with)) := gfn F__law_with gl__law_with sc__law_with (fun _ _ _ _ _ _ us hl => match us, hl with | [_, _, _], _ => rfl) (d__law_with (P := P) (w := w) (K := K) (mg := mg) (base := base) (f_dict := f_dict)) meets
  have G__law_is_tree : GFn P w K mg base "_law_is_tree" k__law_is_tree ["_law_anchors"] (lift K 1 (FSp.of f__law_is_tree)) := gfn F__law_is_tree gl__law_is_tree sc__law_is_tree (fun _ _ _ _ _ _ us hl => match us, hl with | [_], _ => rfl) (d__law_is_tree (P := P) (w := w) (K := K) (mg := mg) (base := base) ) meets
  have G__law_trees : GFn P w K mg base "_law_trees" k__law_trees ["_law_names_here", "_law_looks"] (lift K 2 (FSp.of f__law_trees)) := gfn F__law_trees gl__law_trees sc__law_trees (fun _ _ _ _ _ _ us hl => match us, hl with | [_, _], _ => rfl) (d__law_trees (P := P) (w := w) (K := K) (mg := mg) (base := base) (G__law_is_tree := G__law_is_tree) (G__law_with := G__law_with) (f_list := f_list)) meets
  obtain ⟨ff, fdf, g1, g2, g3, g4⟩ := ok_fresh (P := P) (w := w) (base := base) F__law_fresh gl__law_fresh f_list
  refine FnOk.any ?_
  exact law_top F_law sc_law (by decide) (fun cdv A outer s H E hr => ps_set (i := 1) sc_law.nd rfl (by first | exact .inl rfl | exact .inr rfl) (pe_call g4 (DL.Room.le hr (by decide)) rfl g1 g2 g3 .nil passT (pa_cons (pv 0) pa_nil))) (d_law (P := P) (w := w) (K := K) (mg := mg) (base := base) (G__law_found := G__law_found) (G__law_mix := G__law_mix) (G__law_names := G__law_names) (G__law_one := G__law_one) (G__law_rising := G__law_rising) (G__law_some := G__law_some) (G__law_take := G__law_take) (G__law_trees := G__law_trees) (G_hangings := G_hangings) (cl_Hanging := cl_Hanging) (f_all := f_all) (f_dict := f_dict) (f_enumerate := f_enumerate) (f_isinstance := f_isinstance) (f_len := f_len) (f_range := f_range) (f_tuple := f_tuple) (gl_Hanging := gl_Hanging) (hT := hT) (ins_Hanging := ins_Hanging)) M_law
end DL.K08
open PySem PySem.W PySem.Calls PyProof.Rows
theorem PySem.Challenge.cw_cookcalls_k08_whole_all_hangings_holds : PySem.Challenge.rw_cookcalls_k08_whole_all_hangings.Holds := by
  w_on; o_law
  refine HandSHeadRun.head_any (r := OpenLaw.row PySem.Challenge.rw_cookcalls_k08_whole_all_hangings) (q := view (OpenLaw.row PySem.Challenge.rw_cookcalls_k08_whole_all_hangings).prog [30]) (H := DL.K08.hk) (ob := DL.K08.ob) (M := 20000) (loose := DL.K08.loose) (d := HandSHeadRun.topDef (OpenLaw.row PySem.Challenge.rw_cookcalls_k08_whole_all_hangings).prog 30) (kwd := []) DL.K08.ob_eq
    (by kernel_rfl) (fun s => by kernel_rfl) DL.K08.run (by kernel_rfl) (by kernel_rfl) (by kernel_rfl) (by rfl) (by first | assumption | decide +kernel) (by decide +kernel) ⟨rfl, rfl, rfl, rfl, rfl, by decide +kernel⟩ ?hw ?hc
  case hw => w_witness2
  case hc =>
    refine L2.walk_ofE (l := PySem.Challenge.rw_cookcalls_k08_whole_all_hangings) (n := 63) (k := DL.K08.k_law) (x := "_law_script") rfl (by decide) (by kernel_rfl) ⟨rfl, by decide, by decide⟩ ?F DL.cx_end
    intro w mg fa h Y G hmg0
    obtain ⟨K, KX, c⟩ := Y
    have hmg : mg ("law" : PySem.Str) = some (.ref fa) := by
      have e : (HandSHeadRun.topDef (OpenLaw.row PySem.Challenge.rw_cookcalls_k08_whole_all_hangings).prog 30).name = ("law" : PySem.Str) := by kernel_rfl
      rw [← e]
      exact hmg0
    obtain ⟨fd, hb, hF⟩ := DL.K08.facts (P := (PySem.Challenge.rw_cookcalls_k08_whole_all_hangings).prog) (w := w) KX G hmg c (by kernel_rfl)
    exact ⟨K, fd, @DL.spLaw (DL.K08.tabN w) K, KX, hb, fun H a ns hl hO hS => ⟨a, ns, rfl, hS, @DL.only_tb (DL.K08.tabN w) rfl _ hO, fun _ => rfl⟩, hF⟩
