import PyProof.Rows.All
import HandS.HeadHook4
import HandS.ForMost
import HandS.ForExc
import HandS.Conv
import HandS.HeadHook1
import HandS.Lambda
import HandS.Walk
import HandS.IsInst
import HandS.Flow
import HandS.Wide
import HandS.TupAny
import HandS.Deep
import HandS.Strs
import KE.GoesEnum
import HandS.Zip
import HandS.Exc
import HandS.Iter
import HandS.Defaults
import HandS.DictComp
import HandS.Words
import HandS.ExcInit
import HandS.Nested
import KE.KExcSuper
import HandS.TryMany
import HandS.ExcField
import HandS.Dict
import PyProof.Rows.SetFrom
import HandS.Small
import HandS.Style
import HandS.DeepEq
import HandS.HeadWalk
import HandS.Ends
import Wide.All
import OpenK.AllK
import Wide.FinOn
import KE.KStateDown
import HandS.WordsExc
import HandS.More
import HandS.Head0
import HandS.Head1
import HandS.Head2
import HandS.HeadEnd
import PySem.Challenge.RW_cookcalls_k34_looks_refused
set_option Elab.async false
set_option linter.all false
set_option maxRecDepth 100000
set_option maxHeartbeats 0
namespace HX
open PySem L2
/-- the statements of a class -/
def inCls (st : Stmt) : List Stmt := match st with
  | .ClassDef _ _ _ b _ _ _ _ _ _ _ => b
  | _ => []
def isNil (d : Data) : Bool := match d with
  | .seq its _ => its.isEmpty
  | _ => false
/-- an empty tuple of the module's own stands at a -/
def tup0 (K : PySem.W.Frag) (a : Addr) : Bool := (K.lookup a).any fun o => decide (o.cls = .type "tuple") && isNil o.data
theorem tup0_ok {K : PySem.W.Frag} {a : Addr} (h : tup0 K a = true) : ∃ (o : Obj) (its : Array Value) (n : Nat), K.lookup a = some o ∧ o.cls = .type "tuple" ∧ o.data = .seq its n ∧ its.size ≤ sizeLine ∧ Vals [] its.toList := by
  obtain ⟨o, e, h⟩ := (Option.any_eq_true _ _).mp h
  obtain ⟨h1, h2⟩ := Bool.and_eq_true_iff.mp h
  unfold isNil at h2
  split at h2
  · next its n ed =>
    have e0 : its = #[] := Array.isEmpty_iff.mp h2
    subst e0
    exact ⟨o, #[], n, e, of_decide_eq_true h1, ed, Nat.zero_le _, .nil⟩
  · cases h2
end HX
namespace DL
open PySem PySem.Spec PyProof.Rows L2
/-- the tables of code objects that are kept in sight: of each the name that its code objects bear -/
class TabC where
  T : List (Addr × Str)
/-! data: a value without its addresses -/
abbrev AS := Addr → Prop
inductive D where
  | non | bl (b : Bool) | int (i : Int) | str (x : Str) | raw (v : V) | st
  | tup (xs : List D) | lst (xs : List D) | dic (kvs : List (Key × D)) | obj (C : Str) (fs : List (Str × D))

/-- a tuple: tracked, or the module's own -/
def TpA (K : PySem.W.Frag) (H : Hp) (a : Addr) (xs : List V) : Prop :=
  H a = some (.tup xs) ∨ ∃ (o : Obj) (its : Array Value) (n : Nat), K.lookup a = some o ∧ o.cls = .type "tuple" ∧ o.data = .seq its n ∧ its.size ≤ sizeLine ∧ Vals xs its.toList
theorem TpA.sq {K : PySem.W.Frag} {H : Hp} {a : Addr} {xs : List V} (h : TpA K H a xs) : SqT K H a xs := h.elim (fun h => .inl (.inl h)) fun h => .inr h
mutual
def Rep (K : PySem.W.Frag) (aS : Addr) (H : Hp) (A : AS) : D → V → Prop
  | .non, v => v = .non
  | .bl b, v => v = .bl b
  | .int i, v => v = .int i
  | .str x, v => v = .str x
  | .raw u, v => v = u
  | .st, v => v = .ref aS
  | .tup ds, v => ∃ a xs, v = .ref a ∧ TpA K H a xs ∧ RepL K aS H A ds xs
  | .lst ds, v => ∃ a xs, v = .ref a ∧ ¬ A a ∧ H a = some (.lst xs) ∧ RepL K aS H A ds xs
  | .dic kvs, v => ∃ a ys, v = .ref a ∧ ¬ A a ∧ Rd H a (.dK ys) ∧ RepK K aS H A kvs ys
  | .obj C fs, v => ∃ a dx ys, v = .ref a ∧ ¬ A a ∧ H a = some (.ins (He.ga K C) dx ys) ∧ RepF K aS H A fs ys
def RepL (K : PySem.W.Frag) (aS : Addr) (H : Hp) (A : AS) : List D → List V → Prop
  | [], vs => vs = []
  | d :: ds, vs => ∃ v vr, vs = v :: vr ∧ Rep K aS H A d v ∧ RepL K aS H A ds vr
def RepK (K : PySem.W.Frag) (aS : Addr) (H : Hp) (A : AS) : List (Key × D) → List (Key × V) → Prop
  | [], vs => vs = []
  | (k, d) :: ds, vs => ∃ v vr, vs = (k, v) :: vr ∧ Rep K aS H A d v ∧ RepK K aS H A ds vr
def RepF (K : PySem.W.Frag) (aS : Addr) (H : Hp) (A : AS) : List (Str × D) → List (Str × V) → Prop
  | [], vs => vs = []
  | (k, d) :: ds, vs => ∃ v vr, vs = (k, v) :: vr ∧ Rep K aS H A d v ∧ RepF K aS H A ds vr
end
section
variable {K : PySem.W.Frag} {aS : Addr} {H H' : Hp} {A A' : AS}
/-- what a heap's change must keep -/
structure Sub (K : PySem.W.Frag) (H H' : Hp) (A A' : AS) : Prop where
  l : ∀ a xs, ¬ A a → H a = some (.lst xs) → ¬ A' a ∧ H' a = some (.lst xs)
  t : ∀ a xs, TpA K H a xs → TpA K H' a xs
  d : ∀ a ys, ¬ A a → Rd H a (.dK ys) → ¬ A' a ∧ Rd H' a (.dK ys)
  o : ∀ a C dx ys, ¬ A a → H a = some (.ins C dx ys) → ¬ A' a ∧ H' a = some (.ins C dx ys)
mutual
theorem Rep.mono (S : Sub K H H' A A') : ∀ (d : D) (v : V), Rep K aS H A d v → Rep K aS H' A' d v
  | .non, v, h => by rw [Rep] at h ⊢; exact h
  | .bl b, v, h => by rw [Rep] at h ⊢; exact h
  | .int i, v, h => by rw [Rep] at h ⊢; exact h
  | .str x, v, h => by rw [Rep] at h ⊢; exact h
  | .raw u, v, h => by rw [Rep] at h ⊢; exact h
  | .st, v, h => by rw [Rep] at h ⊢; exact h
  | .tup ds, v, h => by
    rw [Rep] at h ⊢
    obtain ⟨a, xs, e, q, r⟩ := h
    exact ⟨a, xs, e, S.t a xs q, RepL.mono S ds xs r⟩
  | .lst ds, v, h => by
    rw [Rep] at h ⊢
    obtain ⟨a, xs, e, n, q, r⟩ := h
    obtain ⟨n', q'⟩ := S.l a xs n q
    exact ⟨a, xs, e, n', q', RepL.mono S ds xs r⟩
  | .dic kvs, v, h => by
    rw [Rep] at h ⊢
    obtain ⟨a, ys, e, n, q, r⟩ := h
    obtain ⟨n', q'⟩ := S.d a ys n q
    exact ⟨a, ys, e, n', q', RepK.mono S kvs ys r⟩
  | .obj C fs, v, h => by
    rw [Rep] at h ⊢
    obtain ⟨a, dx, ys, e, n, q, r⟩ := h
    obtain ⟨n', q'⟩ := S.o a _ dx ys n q
    exact ⟨a, dx, ys, e, n', q', RepF.mono S fs ys r⟩
theorem RepL.mono (S : Sub K H H' A A') : ∀ (ds : List D) (vs : List V), RepL K aS H A ds vs → RepL K aS H' A' ds vs
  | [], vs, h => by rw [RepL] at h ⊢; exact h
  | d :: ds, vs, h => by
    rw [RepL] at h ⊢
    obtain ⟨v, vr, e, r, q⟩ := h
    exact ⟨v, vr, e, Rep.mono S d v r, RepL.mono S ds vr q⟩
theorem RepK.mono (S : Sub K H H' A A') : ∀ (ds : List (Key × D)) (vs : List (Key × V)), RepK K aS H A ds vs → RepK K aS H' A' ds vs
  | [], vs, h => by rw [RepK] at h ⊢; exact h
  | (k, d) :: ds, vs, h => by
    rw [RepK] at h ⊢
    obtain ⟨v, vr, e, r, q⟩ := h
    exact ⟨v, vr, e, Rep.mono S d v r, RepK.mono S ds vr q⟩
theorem RepF.mono (S : Sub K H H' A A') : ∀ (ds : List (Str × D)) (vs : List (Str × V)), RepF K aS H A ds vs → RepF K aS H' A' ds vs
  | [], vs, h => by rw [RepF] at h ⊢; exact h
  | (k, d) :: ds, vs, h => by
    rw [RepF] at h ⊢
    obtain ⟨v, vr, e, r, q⟩ := h
    exact ⟨v, vr, e, Rep.mono S d v r, RepF.mono S ds vr q⟩
end
end
end DL
namespace DL
open PySem PySem.Spec PyProof.Rows L2
variable [TabC]
abbrev Ev := List (Option D)
/-- the tables in sight -/
def TbA (H : Hp) : Prop := LamX.Tabs TabC.T H ∧ ∀ b ps, H b = some (.tbl ps) → True
/-- grown, by no table -/
def Gr (H H' : Hp) : Prop := (∀ b u, H b = some u → H' b = some u) ∧ ∀ b ps, H' b = some (.tbl ps) → H b = some (.tbl ps)
theorem Gr.refl (H : Hp) : Gr H H := ⟨fun _ _ h => h, fun _ _ h => h⟩
theorem Gr.upd {H : Hp} {p : Addr} {o : HO} (hp : H p = none) (ho : ∀ ps, o ≠ .tbl ps := by intro _ z; cases z) : Gr H (L2.upd H p o) := ⟨fun b u e => by rw [upd_ne (ne_of_none e hp)]; exact e, fun b ps e => by
  by_cases z : b = p
  · rw [z, upd_same] at e
    exact (ho _ (Option.some.inj e)).elim
  · rw [upd_ne z] at e
    exact e⟩
theorem Gr.trans {H H' H'' : Hp} (a : Gr H H') (b : Gr H' H'') : Gr H H'' := ⟨fun c u e => b.1 c u (a.1 c u e), fun c ps e => a.2 c ps (b.2 c ps e)⟩
/-- the state of the draws -/
def StA (K : PySem.W.Frag) (aS : Addr) (H : Hp) (n : Nat) : Prop := ∃ (a0 : Addr) (cs : List Int) (i g m d : Int), H aS = some (.lst [.ref a0, .int i, .int g, .int m, .int d]) ∧ a0 ≠ aS ∧
  (∃ o, H a0 = some (.frz o (.lst (cs.map V.int)))) ∧ 0 ≤ i ∧ 0 ≤ g ∧ 0 ≤ m ∧ m < 2147483647 ∧ 0 ≤ d ∧ d ≤ n ∧ TbA H
/-- a thing stays; a table of code objects may grow -/
def Kp1 (u : HO) (o : Option HO) : Prop := match u with
  | .tbl _ => ∃ ps, o = some (.tbl ps)
  | u => o = some u
theorem Kp1.of {u : HO} {o : Option HO} (h : o = some u) : Kp1 u o := by
  cases u with
  | tbl ps => exact ⟨ps, h⟩
  | _ => exact h
theorem Kp1.dom {u : HO} {o : Option HO} (h : Kp1 u o) : ∃ v, o = some v := by
  cases u with
  | tbl ps => exact h.elim fun p e => ⟨_, e⟩
  | _ => exact ⟨_, h⟩
theorem Kp1.trans {u : HO} {o p : Option HO} (h : Kp1 u o) (k : ∀ v, o = some v → Kp1 v p) : Kp1 u p := by
  cases u with
  | tbl ps =>
    obtain ⟨p1, e⟩ := h
    have z := k _ e
    exact z
  | _ => exact k _ h
def KpS (aS : Addr) (H H' : Hp) : Prop := ∀ b u, H b = some u → b ≠ aS → Kp1 u (H' b)
/-- an exception: its class and fields -/
abbrev XD := Str × List (Str × D)
abbrev XQ := XD → Nat → Prop
abbrev EF : XK := fun _ _ _ => False
abbrev EM (α : Type) := XQ → Ev → Nat → (α → Nat → Prop) → Prop
/-- what the caller keeps for himself; the instance that slot 0 owns, in an __init__ -/
structure A0T where
  p : Addr → Prop
  z : Option Addr := none
instance : CoeFun A0T (fun _ => Addr → Prop) := ⟨A0T.p⟩
instance : Coe A0T (Addr → Prop) := ⟨A0T.p⟩
/-- what may not be met: what the caller keeps for himself, the state, what slots own -/
def AV (aS : Addr) (A0 : AS) (O : List Nat) (σ : L2.St) : AS := fun a => A0 a ∨ a = aS ∨ ∃ i, i ∈ O ∧ σ[i]? = some (some (.ref a))
/-- an own list | dict | instance -/
def Own (K : PySem.W.Frag) (aS : Addr) (H : Hp) (A : AS) (a : Addr) : D → Prop
  | .lst ds => ∃ xs, H a = some (.lst xs) ∧ RepL K aS H A ds xs
  | .dic kvs => ∃ ys, H a = some (.dK ys) ∧ RepK K aS H A kvs ys
  | .obj C fs => ∃ dx ys, H a = some (.ins (He.ga K C) dx ys) ∧ RepF K aS H A fs ys
  | _ => False
structure SR (K : PySem.W.Frag) (aS : Addr) (O : List Nat) (A0 : A0T) (H0 : Hp) (σ : L2.St) (H : Hp) (s : Ev) (n : Nat) : Prop where
  len : σ.length = s.length
  sh : ∀ i d, s[i]? = some (some d) → i ∉ O → ∃ v, σ[i]? = some (some v) ∧ Rep K aS H (AV aS A0 O σ) d v
  ow : ∀ i, i ∈ O → ∃ d a, s[i]? = some (some d) ∧ σ[i]? = some (some (.ref a)) ∧ H0 a = none ∧ ¬ A0 a ∧ a ≠ aS ∧ Own K aS H (AV aS A0 O σ) a d
  ds : ∀ i j a, i ∈ O → j ∈ O → σ[i]? = some (some (.ref a)) → σ[j]? = some (some (.ref a)) → i = j
  fr : KpS aS H0 H
  st : StA K aS H n
  av : ∀ a, A0 a → ∃ u, H a = some u
  pn : 0 ∈ O → ∀ a, A0.z = some a → σ[0]? = some (some (.ref a))
section
variable {K : PySem.W.Frag} {aS : Addr} {H H' H'' H0 : Hp} {A A' : AS} {A0 : A0T} {O : List Nat} {σ : L2.St} {s : Ev} {n n' : Nat}
theorem KpS.refl : KpS aS H H := fun _ _ h _ => .of h
theorem KpS.trans (a : KpS aS H H') (b : KpS aS H' H'') : KpS aS H H'' := fun x u h n => (a x u h n).trans fun v e => b x v e n
theorem KpS.upd {p : Addr} {o : HO} (h : H p = none) : KpS aS H (upd H p o) := fun b u e _ => .of (by rw [upd_ne (ne_of_none e h)]; exact e)
theorem tabs_poke0 {T : List (Addr × Str)} {b : Addr} {o o' : HO} (t : LamX.Tabs T H) (hb : H b = some o) (n1 : ∀ ps, o ≠ .tbl ps) (n2 : ∀ f, o ≠ .ext f) : LamX.Tabs T (upd H b o') := fun p hp => by
  obtain ⟨ps, h1, h2, h3⟩ := t p hp
  refine ⟨ps, by rw [upd_ne (fun z => by rw [z, hb] at h1; exact n1 _ (Option.some.inj h1))]; exact h1, h2, fun pos cv hc => ?_⟩
  obtain ⟨c, e1, e2⟩ := h3 pos cv hc
  exact ⟨c, e1, by rw [upd_ne (fun z => by rw [z, hb] at e2; exact n2 _ (Option.some.inj e2))]; exact e2⟩
theorem tabs_poke {b : Addr} {o o' : HO} (t : TbA H) (hb : H b = some o) (n1 : ∀ ps, o ≠ .tbl ps) (n2 : ∀ f, o ≠ .ext f) (n3 : ∀ ps, o' ≠ .tbl ps := by intro _ z; cases z) : TbA (upd H b o') := ⟨tabs_poke0 t.1 hb n1 n2, fun c ps e => by
  by_cases z : c = b
  · rw [z, upd_same] at e
    exact (n3 _ (Option.some.inj e)).elim
  · rw [upd_ne z] at e
    exact t.2 c ps e⟩
theorem Own.plain {d : D} {a : Addr} {o : HO} (h : Own K aS H A a d) (ho : H a = some o) : (∀ ps, o ≠ .tbl ps) ∧ ∀ f, o ≠ .ext f := by
  cases d with
  | lst ds => obtain ⟨xs, e, q⟩ := h; rw [ho] at e; cases e; exact ⟨(fun _ z => nomatch z), (fun _ z => nomatch z)⟩
  | dic ds => obtain ⟨xs, e, q⟩ := h; rw [ho] at e; cases e; exact ⟨(fun _ z => nomatch z), (fun _ z => nomatch z)⟩
  | obj C ds => obtain ⟨dx, xs, e, q⟩ := h; rw [ho] at e; cases e; exact ⟨(fun _ z => nomatch z), (fun _ z => nomatch z)⟩
  | _ => exact h.elim
theorem KpS.lst (k : KpS aS H H') {a : Addr} {xs : List V} (h : H a = some (.lst xs)) (n : a ≠ aS) : H' a = some (.lst xs) := k _ (.lst xs) h n
theorem KpS.dk (k : KpS aS H H') {a : Addr} {xs : List (Key × V)} (h : H a = some (.dK xs)) (n : a ≠ aS) : H' a = some (.dK xs) := k _ (.dK xs) h n
theorem KpS.upd2 (k : KpS aS H H') {p : Addr} {o : HO} (hp : H p = none) : KpS aS H (L2.upd H' p o) := fun b u e z => (k b u e z).trans fun v e' => .of (by rw [upd_ne (ne_of_none e hp)]; exact e')
theorem KpS.gone (k : KpS aS H H') {a : Addr} {u : HO} (ha : H' a = none) (z : H a = some u) (hn : a ≠ aS) : False := by
  obtain ⟨v, e⟩ := (k a u z hn).dom
  rw [ha] at e
  cases e
theorem StA.lst (h : StA K aS H n) : ∃ xs, H aS = some (.lst xs) := by
  obtain ⟨a0, cs, i, g, m, d, e, _⟩ := h
  exact ⟨_, e⟩
theorem StA.mono (h : StA K aS H n) (hn : n ≤ n') : StA K aS H n' := by
  obtain ⟨a0, cs, i, g, m, d, e, h1, h2, h3, h4, h5, h6, h7, h8, h9⟩ := h
  exact ⟨a0, cs, i, g, m, d, e, h1, h2, h3, h4, h5, h6, h7, by omega, h9⟩
theorem SqL.kp (k : KpS aS H H') {a : Addr} {xs : List V} (hn : a ≠ aS) (h : SqL K H a xs) : SqL K H' a xs := by
  refine h.imp_left fun rd => ?_
  exact rd.imp (fun at_ => k _ (.lst xs) at_ hn) fun ⟨o, at_⟩ => ⟨o, k _ (.frz o (.lst xs)) at_ hn⟩
theorem TpA.kp (k : KpS aS H H') {a : Addr} {xs ys : List V} (hs : H aS = some (.lst ys)) (h : TpA K H a xs) : TpA K H' a xs := by
  rcases h with h | h
  · exact .inl (k _ _ h fun e => by rw [e, hs] at h; cases h)
  · exact .inr h
theorem Rd.kp (k : KpS aS H H') {a : Addr} {ys : List (Key × V)} (hn : a ≠ aS) (h : Rd H a (.dK ys)) : Rd H' a (.dK ys) := by
  rcases h with h | ⟨o, h⟩
  · exact .inl (k _ (.dK ys) h hn)
  · exact .inr ⟨o, k _ (.frz o (.dK ys)) h hn⟩
theorem sub_kp (k : KpS aS H H') (hs : ∃ ys, H aS = some (.lst ys)) (hA : A aS) (hle : ∀ a, A' a → A a) : Sub K H H' A A' := by
  obtain ⟨ys, hs⟩ := hs
  have ne : ∀ a, ¬ A a → a ≠ aS := fun a h e => h (e ▸ hA)
  exact ⟨fun a xs h q => ⟨fun z => h (hle a z), k _ _ q (ne a h)⟩, fun a xs q => TpA.kp k hs q, fun a ys h q => ⟨fun z => h (hle a z), Rd.kp k (ne a h) q⟩, fun a C dx ys h q => ⟨fun z => h (hle a z), k _ _ q (ne a h)⟩⟩
theorem AV.st {A0 : AS} : AV aS A0 O σ aS := .inr (.inl rfl)
theorem Rep.kp (k : KpS aS H H') (hs : StA K aS H n) (hA : A aS) {d : D} {v : V} (r : Rep K aS H A d v) : Rep K aS H' A d v := Rep.mono (sub_kp k hs.lst hA fun _ z => z) d v r
theorem RepL.kp (k : KpS aS H H') (hs : StA K aS H n) (hA : A aS) {d : List D} {v : List V} (r : RepL K aS H A d v) : RepL K aS H' A d v := RepL.mono (sub_kp k hs.lst hA fun _ z => z) d v r
theorem RepK.kp (k : KpS aS H H') (hs : StA K aS H n) (hA : A aS) {d : List (Key × D)} {v : List (Key × V)} (r : RepK K aS H A d v) : RepK K aS H' A d v := RepK.mono (sub_kp k hs.lst hA fun _ z => z) d v r
theorem RepF.kp (k : KpS aS H H') (hs : StA K aS H n) (hA : A aS) {d : List (Str × D)} {v : List (Str × V)} (r : RepF K aS H A d v) : RepF K aS H' A d v := RepF.mono (sub_kp k hs.lst hA fun _ z => z) d v r
theorem Own.kp (k : KpS aS H H') (hs : StA K aS H n) (hA : A aS) {d : D} {a : Addr} (ha : a ≠ aS) (r : Own K aS H A a d) : Own K aS H' A a d := by
  cases d with
  | lst ds => obtain ⟨xs, e, q⟩ := r; exact ⟨xs, k _ _ e ha, q.kp k hs hA⟩
  | dic ds => obtain ⟨xs, e, q⟩ := r; exact ⟨xs, k _ _ e ha, q.kp k hs hA⟩
  | obj C ds => obtain ⟨dx, xs, e, q⟩ := r; exact ⟨dx, xs, k _ _ e ha, q.kp k hs hA⟩
  | _ => exact r
/-- behind an expression -/
theorem SR.step (S : SR K aS O A0 H0 σ H s n) (k : KpS aS H H') (t : StA K aS H' n') : SR K aS O A0 H0 σ H' s n' where
  len := S.len
  sh := fun i d h1 h2 => let ⟨v, e, r⟩ := S.sh i d h1 h2; ⟨v, e, r.kp k S.st AV.st⟩
  ow := fun i h => let ⟨d, a, e1, e2, e3, e4, e5, e6⟩ := S.ow i h; ⟨d, a, e1, e2, e3, e4, e5, e6.kp k S.st AV.st e5⟩
  ds := S.ds
  fr := S.fr.trans k
  st := t
  av := fun a h => by
    obtain ⟨u, e⟩ := S.av a h
    by_cases ha : a = aS
    · obtain ⟨xs, q⟩ := t.lst
      exact ⟨_, ha ▸ q⟩
    · exact (k _ _ e ha).dom
  pn := S.pn
theorem SR.up (S : SR K aS O A0 H0 σ H s n) (h : n ≤ n') : SR K aS O A0 H0 σ H s n' := ⟨S.len, S.sh, S.ow, S.ds, S.fr, S.st.mono h, S.av, S.pn⟩
theorem SR.new (S : SR K aS O A0 H0 σ H s n) {a : Addr} (h : H a = none) : ¬ AV aS A0 O σ a := fun z => by
  rcases z with z | z | ⟨i, hi, z⟩
  · obtain ⟨u, e⟩ := S.av a z
    rw [h] at e; cases e
  · obtain ⟨xs, q⟩ := S.st.lst
    rw [z, q] at h; cases h
  · obtain ⟨d, b, e1, e2, e3, e4, e5, e6⟩ := S.ow i hi
    rw [z] at e2
    cases e2
    cases d with
    | lst ds => obtain ⟨xs, e, q⟩ := e6; rw [h] at e; cases e
    | dic ds => obtain ⟨xs, e, q⟩ := e6; rw [h] at e; cases e
    | obj C ds => obtain ⟨dx, xs, e, q⟩ := e6; rw [h] at e; cases e
    | _ => exact e6.elim
end
/-- what is wanted of a raise -/
def LX (K : PySem.W.Frag) (E : XK) (aS : Addr) (A0 : AS) (H0 : Hp) (xq : XQ) : Prop :=
  ∀ (C : Str) (fs : List (Str × D)) (n : Nat) (d : Option Addr) (H' : Hp), KpS aS H0 H' → StA K aS H' n → (match d with | none => fs = [] | some a => ∃ ys, H0 a = none ∧ H' a = some (.xd ys) ∧ RepF K aS H' (AV aS A0 [] []) fs ys) → xq (C, fs) n → E (.ref (He.ga K C)) d H'
/-- .. its own place may be owned -/
def RepB (K : PySem.W.Frag) (aS : Addr) (H : Hp) (A : AS) : D → V → Prop
  | .lst ds, v => ∃ a xs, v = .ref a ∧ a ≠ aS ∧ H a = some (.lst xs) ∧ RepL K aS H A ds xs
  | .dic kvs, v => ∃ a ys, v = .ref a ∧ a ≠ aS ∧ Rd H a (.dK ys) ∧ RepK K aS H A kvs ys
  | .obj C fs, v => ∃ a dx ys, v = .ref a ∧ a ≠ aS ∧ H a = some (.ins (He.ga K C) dx ys) ∧ RepF K aS H A fs ys
  | d, v => Rep K aS H A d v
abbrev RK := PySem.W.Frag → Addr → Hp → AS → D → V → Prop
def Mn {α : Type} (m : EM α) : Prop := ∀ xq s n (Q Q' : α → Nat → Prop), (∀ d n', Q d n' → Q' d n') → m xq s n Q → m xq s n Q'
/-- an expression read over data -/
def VX (R : RK) (X : Cx) (E : XK) (O : List Nat) (e : Expr) (m : EM D) : Prop := Mn m ∧ ∃ t, PE X e t ∧ ∀ (aS : Addr) (A0 : A0T) (H0 : Hp) (σ : L2.St) (H : Hp) (s : Ev) (n : Nat) (xq : XQ) (Q : VK), SR X.K aS O A0 H0 σ H s n → LX X.K E aS A0 H0 xq →
  m xq s n (fun d n' => ∀ v H', KpS aS H H' → StA X.K aS H' n' → R X.K aS H' (AV aS A0 O σ) d v → Q v H') → t σ H Q
abbrev VE := VX Rep
abbrev VB := VX RepB
/-- .. a new object -/
def VF (X : Cx) (E : XK) (O : List Nat) (e : Expr) (m : EM D) : Prop := Mn m ∧ ∃ t, PE X e t ∧ ∀ (aS : Addr) (A0 : A0T) (H0 : Hp) (σ : L2.St) (H : Hp) (s : Ev) (n : Nat) (xq : XQ) (Q : VK), SR X.K aS O A0 H0 σ H s n → LX X.K E aS A0 H0 xq →
  m xq s n (fun d n' => ∀ a H', H a = none → KpS aS H H' → StA X.K aS H' n' → Own X.K aS H' (fun b => AV aS A0 O σ b ∨ b = a) a d → Q (.ref a) H') → t σ H Q
/-- a test -/
def VT (X : Cx) (E : XK) (O : List Nat) (e : Expr) (m : EM Bool) : Prop := Mn m ∧ ∃ t, PT X e t ∧ ∀ (aS : Addr) (A0 : A0T) (H0 : Hp) (σ : L2.St) (H : Hp) (s : Ev) (n : Nat) (xq : XQ) (Q : Bool → Hp → Prop), SR X.K aS O A0 H0 σ H s n → LX X.K E aS A0 H0 xq →
  m xq s n (fun b n' => ∀ H', KpS aS H H' → StA X.K aS H' n' → Q b H') → t σ H Q
/-- arguments -/
def RL (R : RK) (K : PySem.W.Frag) (aS : Addr) (H : Hp) (A : AS) : List D → List V → Prop
  | [], vs => vs = []
  | d :: ds, vs => ∃ v vr, vs = v :: vr ∧ R K aS H A d v ∧ RL R K aS H A ds vr
def VA (R : RK) (X : Cx) (E : XK) (O : List Nat) (es : List Expr) (m : EM (List D)) : Prop := Mn m ∧ ∃ t, PA X es t ∧ ∀ (aS : Addr) (A0 : A0T) (H0 : Hp) (σ : L2.St) (H : Hp) (s : Ev) (n : Nat) (xq : XQ) (Q : List V → Hp → Prop), SR X.K aS O A0 H0 σ H s n → LX X.K E aS A0 H0 xq →
  m xq s n (fun d n' => ∀ v H', KpS aS H H' → StA X.K aS H' n' → RL R X.K aS H' (AV aS A0 O σ) d v → Q v H') → t σ H Q
/-- statements -/
structure DE where
  nx : Ev → Nat → Prop
  rt : D → Nat → Prop
  bk : Ev → Nat → Prop := fun _ _ => False
  ct : Ev → Nat → Prop := fun _ _ => False
abbrev SM := XQ → DE → Ev → Nat → Prop
structure LK (K : PySem.W.Frag) (aS : Addr) (O OL : List Nat) (A0 : A0T) (H0 : Hp) (de : DE) (De : Ends) : Prop where
  nx : ∀ σ H s n, SR K aS O A0 H0 σ H s n → de.nx s n → De.nx σ H
  rt : ∀ v H d n, KpS aS H0 H → StA K aS H n → Rep K aS H (AV aS A0 [] []) d v → de.rt d n → De.rt v H
  bk : ∀ σ H s n, SR K aS OL A0 H0 σ H s n → de.bk s n → De.bk σ H
  ct : ∀ σ H s n, SR K aS OL A0 H0 σ H s n → de.ct s n → De.ct σ H
def VS (X : Cx) (E : XK) (O O' OL : List Nat) (st : Stmt) (m : SM) : Prop := ∃ t, PS X st t ∧ ∀ (aS : Addr) (A0 : A0T) (H0 : Hp) (σ : L2.St) (H : Hp) (s : Ev) (n : Nat) (xq : XQ) (de : DE) (De : Ends), SR X.K aS O A0 H0 σ H s n → LX X.K E aS A0 H0 xq →
  LK X.K aS O' OL A0 H0 de De → m xq de s n → t De σ H
def VSs (X : Cx) (E : XK) (O O' OL : List Nat) (st : List Stmt) (m : SM) : Prop := ∃ t, PSs X st t ∧ ∀ (aS : Addr) (A0 : A0T) (H0 : Hp) (σ : L2.St) (H : Hp) (s : Ev) (n : Nat) (xq : XQ) (de : DE) (De : Ends), SR X.K aS O A0 H0 σ H s n → LX X.K E aS A0 H0 xq →
  LK X.K aS O' OL A0 H0 de De → m xq de s n → t De σ H
end DL
namespace DL
open PySem PySem.Spec PyProof.Rows L2
variable [TabC]
section
variable {K : PySem.W.Frag} {aS : Addr} {H H' H'' H0 : Hp} {A A' : AS} {A0 : A0T} {O : List Nat} {σ : L2.St} {s : Ev} {n n' : Nat} {R : RK}
theorem StA.kp (k : Gr H H') (h : StA K aS H n) : StA K aS H' n := by
  obtain ⟨a0, cs, i, g, m, d, e, h1, ⟨o, h2⟩, h3, h4, h5, h6, h7, h8, h9⟩ := h
  exact ⟨a0, cs, i, g, m, d, k.1 _ _ e, h1, ⟨o, k.1 _ _ h2⟩, h3, h4, h5, h6, h7, h8, h9.1.ext k.1, fun b ps z => h9.2 b ps (k.2 b ps z)⟩
theorem StA.upd {p : Addr} {o : HO} (hp : H p = none) (h : StA K aS H n) (ho : ∀ ps, o ≠ .tbl ps := by intro _ z; cases z) : StA K aS (upd H p o) n := h.kp (Gr.upd hp ho)
theorem Rep.b (hA : A aS) {d : D} {v : V} (r : Rep K aS H A d v) : RepB K aS H A d v := by
  cases d with
  | lst ds => rw [Rep] at r; obtain ⟨a, xs, e, n, q⟩ := r; exact ⟨a, xs, e, fun z => n (z ▸ hA), q⟩
  | dic ds => rw [Rep] at r; obtain ⟨a, xs, e, n, q⟩ := r; exact ⟨a, xs, e, fun z => n (z ▸ hA), q⟩
  | obj C ds => rw [Rep] at r; obtain ⟨a, dx, xs, e, n, q⟩ := r; exact ⟨a, dx, xs, e, fun z => n (z ▸ hA), q⟩
  | _ => exact r
theorem RepB.kp (k : KpS aS H H') (hs : StA K aS H n) (hA : A aS) {d : D} {v : V} (r : RepB K aS H A d v) : RepB K aS H' A d v := by
  cases d with
  | lst ds => obtain ⟨a, xs, e, n, q, r⟩ := r; exact ⟨a, xs, e, n, k _ _ q n, r.kp k hs hA⟩
  | dic ds => obtain ⟨a, xs, e, n, q, r⟩ := r; exact ⟨a, xs, e, n, Rd.kp k n q, r.kp k hs hA⟩
  | obj C ds => obtain ⟨a, dx, xs, e, n, q, r⟩ := r; exact ⟨a, dx, xs, e, n, k _ _ q n, r.kp k hs hA⟩
  | non => exact Rep.kp k hs hA (d := .non) r
  | bl b => exact Rep.kp k hs hA (d := .bl b) r
  | int b => exact Rep.kp k hs hA (d := .int b) r
  | str b => exact Rep.kp k hs hA (d := .str b) r
  | raw b => exact Rep.kp k hs hA (d := .raw b) r
  | st => exact Rep.kp k hs hA (d := .st) r
  | tup b => exact Rep.kp k hs hA (d := .tup b) r
/-- a relation that stays behind an expression -/
def Stb (R : RK) : Prop := ∀ (K : PySem.W.Frag) (aS : Addr) (H H' : Hp) (A : AS) (n : Nat) (d : D) (v : V), KpS aS H H' → StA K aS H n → A aS → R K aS H A d v → R K aS H' A d v
theorem stbE : Stb Rep := fun _ _ _ _ _ _ _ _ k hs hA r => r.kp k hs hA
theorem stbB : Stb RepB := fun _ _ _ _ _ _ _ _ k hs hA r => r.kp k hs hA
theorem RL.kp (hR : Stb R) (k : KpS aS H H') (hs : StA K aS H n) (hA : A aS) : ∀ {ds : List D} {vs : List V}, RL R K aS H A ds vs → RL R K aS H' A ds vs
  | [], _, h => h
  | d :: ds, vs, h => by
    obtain ⟨v, vr, e, r, q⟩ := h
    exact ⟨v, vr, e, hR _ _ _ _ _ _ _ _ k hs hA r, RL.kp hR k hs hA q⟩
theorem RL.repL : ∀ {ds : List D} {vs : List V}, RL Rep K aS H A ds vs → RepL K aS H A ds vs
  | [], _, h => by rw [RepL]; exact h
  | d :: ds, vs, h => by
    obtain ⟨v, vr, e, r, q⟩ := h
    rw [RepL]
    exact ⟨v, vr, e, r, RL.repL q⟩
theorem RepL.rl : ∀ {ds : List D} {vs : List V}, RepL K aS H A ds vs → RL Rep K aS H A ds vs
  | [], _, h => by rw [RepL] at h; exact h
  | d :: ds, vs, h => by
    rw [RepL] at h
    obtain ⟨v, vr, e, r, q⟩ := h
    exact ⟨v, vr, e, r, RepL.rl q⟩
theorem RepL.length : ∀ {ds : List D} {vs : List V}, RepL K aS H A ds vs → vs.length = ds.length
  | [], _, h => by rw [RepL] at h; rw [h]; rfl
  | d :: ds, vs, h => by
    rw [RepL] at h
    obtain ⟨v, vr, e, r, q⟩ := h
    rw [e, List.length_cons, List.length_cons, RepL.length q]
theorem RepL.nil : RepL K aS H A [] [] := by rw [RepL]
theorem RepL.cons {d : D} {v : V} {ds : List D} {vs : List V} (r : Rep K aS H A d v) (q : RepL K aS H A ds vs) : RepL K aS H A (d :: ds) (v :: vs) := by rw [RepL]; exact ⟨v, vs, rfl, r, q⟩
theorem RepL.app : ∀ {ds es : List D} {vs ws : List V}, RepL K aS H A ds vs → RepL K aS H A es ws → RepL K aS H A (ds ++ es) (vs ++ ws)
  | [], _, _, _, h, q => by rw [RepL] at h; rw [h]; exact q
  | d :: ds, es, vs, ws, h, q => by
    rw [RepL] at h
    obtain ⟨v, vr, e, r, q'⟩ := h
    rw [e]
    exact RepL.cons r (RepL.app q' q)
theorem RepL.get : ∀ {ds : List D} {vs : List V} {i : Nat} {d : D}, RepL K aS H A ds vs → ds[i]? = some d → ∃ v, vs[i]? = some v ∧ Rep K aS H A d v
  | [], _, _, _, _, e => by simp at e
  | d :: ds, vs, 0, d', h, e => by
    rw [RepL] at h
    obtain ⟨v, vr, e1, r, q⟩ := h
    simp at e
    subst e
    exact ⟨v, by rw [e1]; rfl, r⟩
  | d :: ds, vs, i + 1, d', h, e => by
    rw [RepL] at h
    obtain ⟨v, vr, e1, r, q⟩ := h
    obtain ⟨w, e2, r2⟩ := RepL.get (i := i) q (by simpa using e)
    exact ⟨w, by rw [e1]; simpa using e2, r2⟩
theorem RepL.get' : ∀ {ds : List D} {vs : List V} {i : Nat} {v : V}, RepL K aS H A ds vs → vs[i]? = some v → ∃ d, ds[i]? = some d ∧ Rep K aS H A d v
  | [], _, _, _, h, e => by rw [RepL] at h; rw [h] at e; simp at e
  | d :: ds, vs, 0, d', h, e => by
    rw [RepL] at h
    obtain ⟨v, vr, e1, r, q⟩ := h
    rw [e1] at e
    simp at e
    subst e
    exact ⟨d, rfl, r⟩
  | d :: ds, vs, i + 1, d', h, e => by
    rw [RepL] at h
    obtain ⟨v, vr, e1, r, q⟩ := h
    rw [e1] at e
    obtain ⟨w, e2, r2⟩ := RepL.get' (i := i) q (by simpa using e)
    exact ⟨w, by simpa using e2, r2⟩
theorem RepL.take : ∀ {ds : List D} {vs : List V} (i : Nat), RepL K aS H A ds vs → RepL K aS H A (ds.take i) (vs.take i)
  | [], _, _, h => by rw [RepL] at h; rw [h]; simp; exact RepL.nil
  | d :: ds, vs, 0, h => by simp; exact RepL.nil
  | d :: ds, vs, i + 1, h => by
    rw [RepL] at h
    obtain ⟨v, vr, e1, r, q⟩ := h
    rw [e1, List.take_succ_cons, List.take_succ_cons]
    exact RepL.cons r (RepL.take i q)
theorem RepL.drop : ∀ {ds : List D} {vs : List V} (i : Nat), RepL K aS H A ds vs → RepL K aS H A (ds.drop i) (vs.drop i)
  | [], _, _, h => by rw [RepL] at h; rw [h]; simp; exact RepL.nil
  | d :: ds, vs, 0, h => by simpa using h
  | d :: ds, vs, i + 1, h => by
    rw [RepL] at h
    obtain ⟨v, vr, e1, r, q⟩ := h
    rw [e1, List.drop_succ_cons, List.drop_succ_cons]
    exact RepL.drop i q
theorem sub_le (hle : ∀ a, A' a → A a) : Sub K H H A A' := ⟨fun a xs h q => ⟨fun z => h (hle a z), q⟩, fun a xs q => q, fun a ys h q => ⟨fun z => h (hle a z), q⟩, fun a C dx ys h q => ⟨fun z => h (hle a z), q⟩⟩
/-- a new object at p -/
theorem sub_new {p : Addr} {o : HO} (hp : H p = none) : Sub K H (upd H p o) A (fun b => A b ∨ b = p) := by
  have ne : ∀ b u, H b = some u → b ≠ p := fun b u e => ne_of_none e hp
  have up : ∀ b u, H b = some u → upd H p o b = some u := fun b u e => by rw [upd_ne (ne b u e)]; exact e
  refine ⟨fun a xs h q => ⟨fun z => z.elim h (ne a _ q), up _ _ q⟩, fun a xs q => q.elim (fun q => .inl (up _ _ q)) .inr, fun a ys h q => ?_, fun a C dx ys h q => ⟨fun z => z.elim h (ne a _ q), up _ _ q⟩⟩
  rcases q with q | ⟨u, q⟩
  · exact ⟨fun z => z.elim h (ne a _ q), .inl (up _ _ q)⟩
  · exact ⟨fun z => z.elim h (ne a _ q), .inr ⟨u, up _ _ q⟩⟩
/-- a list just laid -/
theorem own_new {p : Addr} {ds : List D} {xs : List V} (hp : H p = none) (r : RepL K aS H A ds xs) : Own K aS (upd H p (.lst xs)) (fun b => A b ∨ b = p) p (.lst ds) :=
  ⟨xs, upd_same, RepL.mono (sub_new hp) _ _ r⟩
theorem own_newK {p : Addr} {ds : List (Key × D)} {xs : List (Key × V)} (hp : H p = none) (r : RepK K aS H A ds xs) : Own K aS (upd H p (.dK xs)) (fun b => A b ∨ b = p) p (.dic ds) :=
  ⟨xs, upd_same, RepK.mono (sub_new hp) _ _ r⟩
end
/-! ### the readings -/
def eVar (i : Nat) : EM D := fun _ s n Q => ∃ d, s[i]? = some (some d) ∧ Q d n
def eC (d : D) : EM D := fun _ _ n Q => Q d n
def eNil : EM (List D) := fun _ _ n Q => Q [] n
def eCons (m : EM D) (r : EM (List D)) : EM (List D) := fun xq s n Q => m xq s n fun d n1 => r xq s n1 fun ds n2 => Q (d :: ds) n2
def eTup (m : EM (List D)) : EM D := fun xq s n Q => m xq s n fun ds n1 => ds.length ≤ 1000 ∧ Q (.tup ds) n1
def eLst (m : EM (List D)) : EM D := fun xq s n Q => m xq s n fun ds n1 => ds.length ≤ 1000 ∧ Q (.lst ds) n1
section
variable {X : Cx} {E : XK} {O : List Nat} {e : Expr} {es : List Expr} {m : EM D} {ml : EM (List D)} {pos : Pos} {R R' : RK}
theorem VX.imp (h : VX R X E O e m) (hR : ∀ K aS H A d v, A aS → R K aS H A d v → R' K aS H A d v) : VX R' X E O e m := by
  obtain ⟨mn, t, pe, f⟩ := h
  exact ⟨mn, t, pe, fun aS A0 H0 σ H s n xq Q S L hm => f aS A0 H0 σ H s n xq Q S L (mn _ _ _ _ _ (fun d n' q v H' k st r => q v H' k st (hR _ _ _ _ _ _ AV.st r)) hm)⟩
theorem VE.b (h : VE X E O e m) : VB X E O e m := VX.imp h fun _ _ _ _ _ _ hA r => r.b hA
theorem Own.mono {K : PySem.W.Frag} {aS a : Addr} {H : Hp} {A A' : AS} {d : D} (hle : ∀ b, A' b → A b) (h : Own K aS H A a d) : Own K aS H A' a d := by
  cases d with
  | lst ds => obtain ⟨xs, e, q⟩ := h; exact ⟨xs, e, RepL.mono (sub_le hle) _ _ q⟩
  | dic ds => obtain ⟨xs, e, q⟩ := h; exact ⟨xs, e, RepK.mono (sub_le hle) _ _ q⟩
  | obj C ds => obtain ⟨dx, xs, e, q⟩ := h; exact ⟨dx, xs, e, RepF.mono (sub_le hle) _ _ q⟩
  | _ => exact h.elim
theorem Own.rep0 {K : PySem.W.Frag} {aS a : Addr} {H : Hp} {A : AS} {d : D} (h : Own K aS H A a d) (ha : ¬ A a) : Rep K aS H A d (.ref a) := by
  cases d with
  | lst ds => obtain ⟨xs, e, q⟩ := h; rw [Rep]; exact ⟨a, xs, rfl, ha, e, q⟩
  | dic ds => obtain ⟨xs, e, q⟩ := h; rw [Rep]; exact ⟨a, xs, rfl, ha, .inl e, q⟩
  | obj C ds => obtain ⟨dx, xs, e, q⟩ := h; rw [Rep]; exact ⟨a, dx, xs, rfl, ha, e, q⟩
  | _ => exact h.elim
theorem Own.rep {K : PySem.W.Frag} {aS a : Addr} {H : Hp} {A : AS} {d : D} (h : Own K aS H (fun b => A b ∨ b = a) a d) (ha : ¬ A a) : Rep K aS H A d (.ref a) := (h.mono fun _ => .inl).rep0 ha
/-- what is not tracked is not avoided, if what is avoided is tracked -/
theorem VF.ve (h : VF X E O e m) : VE X E O e m := by
  obtain ⟨mn, t, pe, f⟩ := h
  refine ⟨mn, t, pe, fun aS A0 H0 σ H s n xq Q S L hm => f aS A0 H0 σ H s n xq Q S L (mn _ _ _ _ _ (fun d n' q a H' ha k st o => q _ H' k st (o.rep (S.new ha))) hm)⟩
theorem ve_var {i : Nat} {x : Str} (hi : i ∉ O) (hN : X.N[i]? = some x) (hv : Vis X.env.scope x) (hd : (x == ("__debug__" : Str)) = false := by decide) (hcd : (x == ("__classdict__" : Str)) = false := by decide) : VE X E O (.Name x pos) (eVar i) := by
  refine ⟨fun xq s n Q Q' hq ⟨d, e, q⟩ => ⟨d, e, hq _ _ q⟩, _, pe_var hN hv hd hcd, fun aS A0 H0 σ H s n xq Q S L hm => ?_⟩
  obtain ⟨d, e, q⟩ := hm
  obtain ⟨v, ev, r⟩ := S.sh i d e hi
  exact ⟨v, ev, q v H KpS.refl S.st r⟩
theorem vb_var {i : Nat} {x : Str} (hi : i ∈ O) (hN : X.N[i]? = some x) (hv : Vis X.env.scope x) (hd : (x == ("__debug__" : Str)) = false := by decide) (hcd : (x == ("__classdict__" : Str)) = false := by decide) : VB X E O (.Name x pos) (eVar i) := by
  refine ⟨fun xq s n Q Q' hq ⟨d, e, q⟩ => ⟨d, e, hq _ _ q⟩, _, pe_var hN hv hd hcd, fun aS A0 H0 σ H s n xq Q S L hm => ?_⟩
  obtain ⟨d, e, q⟩ := hm
  obtain ⟨d', a, e1, e2, e3, e4, e5, e6⟩ := S.ow i hi
  rw [e] at e1
  cases e1
  refine ⟨_, e2, q _ H KpS.refl S.st ?_⟩
  cases d with
  | lst ds => obtain ⟨xs, e, q⟩ := e6; exact ⟨a, xs, rfl, e5, e, q⟩
  | dic ds => obtain ⟨xs, e, q⟩ := e6; exact ⟨a, xs, rfl, e5, .inl e, q⟩
  | obj C ds => obtain ⟨dx, xs, e, q⟩ := e6; exact ⟨a, dx, xs, rfl, e5, e, q⟩
  | _ => exact e6.elim
end
end DL
namespace DL
open PySem PySem.Spec PyProof.Rows L2
variable [TabC]
structure Cn (K : PySem.W.Frag) (aS : Addr) (H : Hp) (A : AS) (n : Nat) : Prop where
  a : A aS
  dom : ∀ a, A a → ∃ u, H a = some u
  st : StA K aS H n
theorem SR.cn {K : PySem.W.Frag} {aS : Addr} {H H0 : Hp} {A0 : A0T} {O : List Nat} {σ : L2.St} {s : Ev} {n : Nat} (S : SR K aS O A0 H0 σ H s n) : Cn K aS H (AV aS A0 O σ) n :=
  ⟨AV.st, fun a h => by
    cases e : H a with
    | none => exact (S.new e h).elim
    | some u => exact ⟨u, rfl⟩, S.st⟩
theorem Cn.new {K : PySem.W.Frag} {aS p : Addr} {H : Hp} {A : AS} {n : Nat} (c : Cn K aS H A n) (h : H p = none) : ¬ A p := fun z => by
  obtain ⟨u, e⟩ := c.dom p z
  rw [h] at e; cases e
/-- a binary operation by data -/
def OpD (X : Cx) (g : Value → Value → Sem Value) (f : D → D → Option D) : Prop := ∃ r, OpR X g r ∧ ∀ (aS : Addr) (H : Hp) (A : AS) (n : Nat) (d1 d2 d : D) (v1 v2 : V) (Q : VK), Cn X.K aS H A n → RepB X.K aS H A d1 v1 → RepB X.K aS H A d2 v2 → f d1 d2 = some d →
  (∀ v H', KpS aS H H' → StA X.K aS H' n → Rep X.K aS H' A d v → Q v H') → r v1 v2 H Q
def eBin (f : D → D → Option D) (a b : EM D) : EM D := fun xq s n Q => a xq s n fun x n1 => b xq s n1 fun y n2 => ∃ d, f x y = some d ∧ Q d n2
def eBinT (f : D → D → Option D) (a b : EM D) : EM Bool := fun xq s n Q => a xq s n fun x n1 => b xq s n1 fun y n2 => ∃ k, f x y = some (.bl k) ∧ Q k n2
def eBlt (f : List D → Option D) (a : EM (List D)) : EM D := fun xq s n Q => a xq s n fun x n1 => ∃ d, f x = some d ∧ Q d n1
/-- a call by data -/
def CallD (X : Cx) (g : Value) (f : List D → Option D) : Prop := ∃ r, CallR X g r ∧ ∀ (aS : Addr) (H : Hp) (A : AS) (n : Nat) (ds : List D) (d : D) (vs : List V) (Q : VK), Cn X.K aS H A n → RL RepB X.K aS H A ds vs → f ds = some d →
  (∀ v H', KpS aS H H' → StA X.K aS H' n → Rep X.K aS H' A d v → Q v H') → r vs H Q
def CallF (X : Cx) (g : Value) (f : List D → Option D) : Prop := ∃ r, CallR X g r ∧ ∀ (aS : Addr) (H : Hp) (A : AS) (n : Nat) (ds : List D) (d : D) (vs : List V) (Q : VK), Cn X.K aS H A n → RL RepB X.K aS H A ds vs → f ds = some d →
  (∀ a H', H a = none → KpS aS H H' → StA X.K aS H' n → Own X.K aS H' (fun b => A b ∨ b = a) a d → Q (.ref a) H') → r vs H Q
theorem CallF.d {X : Cx} {g : Value} {f : List D → Option D} (h : CallF X g f) : CallD X g f := by
  obtain ⟨r, hr, q⟩ := h
  exact ⟨r, hr, fun aS H A n ds d vs Q c rl e w => q aS H A n ds d vs Q c rl e fun a H' ha k st o => w _ _ k st (o.rep (c.new ha))⟩
section
variable {X : Cx} {E : XK} {O : List Nat} {a b e : Expr} {es : List Expr} {ma mb m : EM D} {ml : EM (List D)} {pos : Pos} {R R' : RK}
theorem mn_bin {f : D → D → Option D} (h1 : Mn ma) (h2 : Mn mb) : Mn (eBin f ma mb) := fun xq s n Q Q' hq h => h1 _ _ _ _ _ (fun d1 n1 h => h2 _ _ _ _ _ (fun d2 n2 ⟨d, e, q⟩ => ⟨d, e, hq _ _ q⟩) h) h
theorem mn_binT {f : D → D → Option D} (h1 : Mn ma) (h2 : Mn mb) : Mn (eBinT f ma mb) := fun xq s n Q Q' hq h => h1 _ _ _ _ _ (fun d1 n1 h => h2 _ _ _ _ _ (fun d2 n2 ⟨d, e, q⟩ => ⟨d, e, hq _ _ q⟩) h) h
theorem ve_bin {op : Operator} {f : D → D → Option D} (h : OpD X (binaryOp op) f) (ha : VB X E O a ma) (hb : VB X E O b mb) : VE X E O (.BinOp a op b pos) (eBin f ma mb) := by
  obtain ⟨mna, ta, pa, fa⟩ := ha
  obtain ⟨mnb, tb, pb, fb⟩ := hb
  obtain ⟨r, ho, hr⟩ := h
  refine ⟨mn_bin mna mnb, _, pe_op ho pa pb, fun aS A0 H0 σ H s n xq Q S L hm => ?_⟩
  refine fa aS A0 H0 σ H s n xq _ S L (mna _ _ _ _ _ (fun d1 n1 q v1 H1 k1 st1 r1 => ?_) hm)
  refine fb aS A0 H0 σ H1 s n1 xq _ (S.step k1 st1) L (mnb _ _ _ _ _ (fun d2 n2 q2 v2 H2 k2 st2 r2 => ?_) q)
  obtain ⟨d, e, q2⟩ := q2
  exact hr aS H2 _ n2 d1 d2 d v1 v2 Q (S.step (k1.trans k2) st2).cn (r1.kp k2 st1 AV.st) r2 e fun v H' k st r => q2 v H' ((k1.trans k2).trans k) st r
theorem ve_cmp {op : CmpOp} {f : D → D → Option D} (h : OpD X (compareOp op) f) (ha : VB X E O a ma) (hb : VB X E O b mb) (hm : behindInMarks op b = false) : VE X E O (.Compare a [op] [b] pos) (eBin f ma mb) := by
  obtain ⟨mna, ta, pa, fa⟩ := ha
  obtain ⟨mnb, tb, pb, fb⟩ := hb
  obtain ⟨r, ho, hr⟩ := h
  refine ⟨mn_bin mna mnb, _, pe_cmpR ho pa pb hm, fun aS A0 H0 σ H s n xq Q S L hm => ?_⟩
  refine fa aS A0 H0 σ H s n xq _ S L (mna _ _ _ _ _ (fun d1 n1 q v1 H1 k1 st1 r1 => ?_) hm)
  refine fb aS A0 H0 σ H1 s n1 xq _ (S.step k1 st1) L (mnb _ _ _ _ _ (fun d2 n2 q2 v2 H2 k2 st2 r2 => ?_) q)
  obtain ⟨d, e, q2⟩ := q2
  exact hr aS H2 _ n2 d1 d2 d v1 v2 Q (S.step (k1.trans k2) st2).cn (r1.kp k2 st1 AV.st) r2 e fun v H' k st r => q2 v H' ((k1.trans k2).trans k) st r
theorem vt_cmp {op : CmpOp} {f : D → D → Option D} (h : OpD X (compareOp op) f) (ha : VB X E O a ma) (hb : VB X E O b mb) (hm : behindInMarks op b = false) : VT X E O (.Compare a [op] [b] pos) (eBinT f ma mb) := by
  obtain ⟨mna, ta, pa, fa⟩ := ha
  obtain ⟨mnb, tb, pb, fb⟩ := hb
  obtain ⟨r, ho, hr⟩ := h
  refine ⟨mn_binT mna mnb, _, pt_cmpR ho pa pb hm, fun aS A0 H0 σ H s n xq Q S L hm => ?_⟩
  refine fa aS A0 H0 σ H s n xq _ S L (mna _ _ _ _ _ (fun d1 n1 q v1 H1 k1 st1 r1 => ?_) hm)
  refine fb aS A0 H0 σ H1 s n1 xq _ (S.step k1 st1) L (mnb _ _ _ _ _ (fun d2 n2 q2 v2 H2 k2 st2 r2 => ?_) q)
  obtain ⟨c, e, q2⟩ := q2
  refine hr aS H2 _ n2 d1 d2 _ v1 v2 _ (S.step (k1.trans k2) st2).cn (r1.kp k2 st1 AV.st) r2 e fun v H' k st r => ?_
  rw [Rep] at r
  exact ⟨c, r, q2 H' ((k1.trans k2).trans k) st⟩
theorem va_nil : VA R X E O [] eNil := ⟨fun xq s n Q Q' hq h => hq _ _ h, _, pa_nil, fun aS A0 H0 σ H s n xq Q S L hm => hm [] H KpS.refl S.st rfl⟩
theorem mn_cons {m : EM D} {r : EM (List D)} (h1 : Mn m) (h2 : Mn r) : Mn (eCons m r) := fun xq s n Q Q' hq h => h1 _ _ _ _ _ (fun d1 n1 h => h2 _ _ _ _ _ (fun d2 n2 q => hq _ _ q) h) h
theorem va_cons (hR : Stb R) (he : VX R X E O e m) (hr : VA R X E O es ml) (hs : starEach (e :: es) X.env = (false, eval e X.env) :: starEach es X.env := by rfl) : VA R X E O (e :: es) (eCons m ml) := by
  obtain ⟨mna, ta, pa, fa⟩ := he
  obtain ⟨mnb, tb, pb, fb⟩ := hr
  refine ⟨mn_cons mna mnb, _, pa_cons pa pb hs, fun aS A0 H0 σ H s n xq Q S L hm => ?_⟩
  refine fa aS A0 H0 σ H s n xq _ S L (mna _ _ _ _ _ (fun d1 n1 q v1 H1 k1 st1 r1 => ?_) hm)
  refine fb aS A0 H0 σ H1 s n1 xq _ (S.step k1 st1) L (mnb _ _ _ _ _ (fun d2 n2 q2 v2 H2 k2 st2 r2 => ?_) q)
  exact q2 _ H2 (k1.trans k2) st2 ⟨v1, v2, rfl, hR _ _ _ _ _ _ _ _ k2 st1 AV.st r1, r2⟩
theorem mn_blt {f : List D → Option D} (h : Mn ml) : Mn (eBlt f ml) := fun xq s n Q Q' hq w => h _ _ _ _ _ (fun ds n1 ⟨d, e, q⟩ => ⟨d, e, hq _ _ q⟩) w
theorem ve_callB {x : Str} {id : String} {p : Pos} {f : List D → Option D} (h : CallD X (.builtin id) f) (hg : Gl X x) (hm : X.mg x = none) (hv : bootBuiltins x = some (.builtin id)) (ha : VA RepB X E O (e :: es) ml) (hn : x ≠ "__name__" := by decide) (hdb : (x == ("__debug__" : Str)) = false := by decide)
    (hs : starEach (e :: es) X.env = (false, eval e X.env) :: starEach es X.env := by rfl) (hpl : (backTo pos (starEach es X.env)).any (·.1) = false := by rfl) : VE X E O (.Call (.Name x p) (e :: es) [] pos) (eBlt f ml) := by
  obtain ⟨mna, ta, pa, fa⟩ := ha
  obtain ⟨r, ho, hr⟩ := h
  refine ⟨mn_blt mna, _, pe_callB ho hg hm hv pa hn hdb hs hpl, fun aS A0 H0 σ H s n xq Q S L hm => ?_⟩
  refine fa aS A0 H0 σ H s n xq _ S L (mna _ _ _ _ _ (fun ds n1 q vs H1 k1 st1 r1 => ?_) hm)
  obtain ⟨d, e, q⟩ := q
  exact hr aS H1 _ n1 ds d vs Q (S.step k1 st1).cn r1 e fun v H' k st r => q v H' (k1.trans k) st r
theorem ve_callTy {x : Str} {id : String} {p : Pos} {f : List D → Option D} (h : CallD X (.type id) f) (hg : Gl X x) (hm : X.mg x = none) (hv : bootBuiltins x = some (.type id)) (ha : VA RepB X E O (e :: es) ml) (hn : x ≠ "__name__" := by decide) (hdb : (x == ("__debug__" : Str)) = false := by decide)
    (hs : starEach (e :: es) X.env = (false, eval e X.env) :: starEach es X.env := by rfl) (hpl : (backTo pos (starEach es X.env)).any (·.1) = false := by rfl) : VE X E O (.Call (.Name x p) (e :: es) [] pos) (eBlt f ml) := by
  obtain ⟨mna, ta, pa, fa⟩ := ha
  obtain ⟨r, ho, hr⟩ := h
  refine ⟨mn_blt mna, _, pe_callTy ho hg hm hv pa hn hdb hs hpl, fun aS A0 H0 σ H s n xq Q S L hm => ?_⟩
  refine fa aS A0 H0 σ H s n xq _ S L (mna _ _ _ _ _ (fun ds n1 q vs H1 k1 st1 r1 => ?_) hm)
  obtain ⟨d, e, q⟩ := q
  exact hr aS H1 _ n1 ds d vs Q (S.step k1 st1).cn r1 e fun v H' k st r => q v H' (k1.trans k) st r
theorem vf_callTy {x : Str} {id : String} {p : Pos} {f : List D → Option D} (h : CallF X (.type id) f) (hg : Gl X x) (hm : X.mg x = none) (hv : bootBuiltins x = some (.type id)) (ha : VA RepB X E O (e :: es) ml) (hn : x ≠ "__name__" := by decide) (hdb : (x == ("__debug__" : Str)) = false := by decide)
    (hs : starEach (e :: es) X.env = (false, eval e X.env) :: starEach es X.env := by rfl) (hpl : (backTo pos (starEach es X.env)).any (·.1) = false := by rfl) : VF X E O (.Call (.Name x p) (e :: es) [] pos) (eBlt f ml) := by
  obtain ⟨mna, ta, pa, fa⟩ := ha
  obtain ⟨r, ho, hr⟩ := h
  refine ⟨mn_blt mna, _, pe_callTy ho hg hm hv pa hn hdb hs hpl, fun aS A0 H0 σ H s n xq Q S L hm => ?_⟩
  refine fa aS A0 H0 σ H s n xq _ S L (mna _ _ _ _ _ (fun ds n1 q vs H1 k1 st1 r1 => ?_) hm)
  obtain ⟨d, e, q⟩ := q
  refine hr aS H1 _ n1 ds d vs Q (S.step k1 st1).cn r1 e fun a H' ha k st o => q a H' ?_ (k1.trans k) st o
  cases z : H a with
  | none => rfl
  | some u =>
    by_cases hz : a = aS
    · obtain ⟨xs, y⟩ := st1.lst
      rw [hz, y] at ha; cases ha
    · exact (KpS.gone k1 ha z hz).elim
/-! displays, constants -/
theorem ve_tup {x1} (h : VA Rep X E O es ml) : VE X E O (.Tuple es x1 pos) (eTup ml) := by
  obtain ⟨mn, t, pa, f⟩ := h
  refine ⟨fun xq s n Q Q' hq h => mn _ _ _ _ _ (fun _ _ ⟨z, q⟩ => ⟨z, hq _ _ q⟩) h, _, pe_tup pa, fun aS A0 H0 σ H s n xq Q S L hm => ?_⟩
  refine f aS A0 H0 σ H s n xq _ S L (mn _ _ _ _ _ (fun ds n1 q vs H1 k1 st1 r1 => ?_) hm)
  have hl := (RL.repL r1).length
  refine ⟨by rw [hl, sizeLine_eq]; omega, fun p hp => q.2 _ _ (k1.trans (KpS.upd hp)) (st1.upd hp) ?_⟩
  rw [Rep]
  exact ⟨p, vs, rfl, .inl upd_same, (RL.repL r1).kp (KpS.upd hp) st1 AV.st⟩
theorem vf_lst (h : VA Rep X E O es ml) : VF X E O (.List es pos) (eLst ml) := by
  obtain ⟨mn, t, pa, f⟩ := h
  refine ⟨fun xq s n Q Q' hq h => mn _ _ _ _ _ (fun _ _ ⟨z, q⟩ => ⟨z, hq _ _ q⟩) h, _, pe_lst pa, fun aS A0 H0 σ H s n xq Q S L hm => ?_⟩
  refine f aS A0 H0 σ H s n xq _ S L (mn _ _ _ _ _ (fun ds n1 q vs H1 k1 st1 r1 => ?_) hm)
  have hl := (RL.repL r1).length
  refine ⟨by rw [hl, sizeLine_eq]; omega, fun p hp => q.2 _ _ ?_ (k1.trans (KpS.upd hp)) (st1.upd hp) (own_new hp (RL.repL r1))⟩
  cases z : H p with
  | none => rfl
  | some u =>
    by_cases hz : p = aS
    · obtain ⟨xs, y⟩ := st1.lst
      rw [hz, y] at hp; cases hp
    · exact (KpS.gone k1 hp z hz).elim
theorem mn_c {d : D} : Mn (eC d) := fun _ _ _ _ _ hq h => hq _ _ h
theorem ve_int {i j pos} : VE X E O (.Constant (.int i) j pos) (eC (.int i)) := ⟨mn_c, _, pe_int, fun aS A0 H0 σ H s n xq Q S L hm => hm _ H KpS.refl S.st (by rw [Rep])⟩
theorem ve_bl {b j pos} : VE X E O (.Constant (.bool b) j pos) (eC (.bl b)) := ⟨mn_c, _, pe_bl, fun aS A0 H0 σ H s n xq Q S L hm => hm _ H KpS.refl S.st (by rw [Rep])⟩
theorem ve_non {j pos} : VE X E O (.Constant .none j pos) (eC .non) := ⟨mn_c, _, pe_non, fun aS A0 H0 σ H s n xq Q S L hm => hm _ H KpS.refl S.st (by rw [Rep])⟩
theorem ve_str {x j pos} : VE X E O (.Constant (.str x) j pos) (eC (.str x)) := ⟨mn_c, _, pe_str, fun aS A0 H0 σ H s n xq Q S L hm => hm _ H KpS.refl S.st (by rw [Rep])⟩
/-- a module's text or int -/
theorem ve_gstr {x z : Str} (hg : Gl X x) (hm : ∃ t, X.mg x = some (.str z t)) (hd : (x == ("__debug__" : Str)) = false := by decide) : VE X E O (.Name x pos) (eC (.str z)) := by
  obtain ⟨t, hm⟩ := hm
  exact ⟨mn_c, _, pe_glob (v := .str z) hg hm ⟨t, rfl⟩ hd, fun aS A0 H0 σ H s n xq Q S L hm => hm _ H KpS.refl S.st (by rw [Rep])⟩
theorem ve_gint {x : Str} {i : Int} (hg : Gl X x) (hm : ∃ t, X.mg x = some (.int i t)) (hd : (x == ("__debug__" : Str)) = false := by decide) : VE X E O (.Name x pos) (eC (.int i)) := by
  obtain ⟨t, hm⟩ := hm
  exact ⟨mn_c, _, pe_glob (v := .int i) hg hm ⟨t, rfl⟩ hd, fun aS A0 H0 σ H s n xq Q S L hm => hm _ H KpS.refl S.st (by rw [Rep])⟩
/-- a built-in class, a class of the program's as a value -/
theorem ve_bty {x : Str} {T : String} (hg : Gl X x) (hm : X.mg x = none) (hv : bootBuiltins x = some (.type T)) (hn : x ≠ "__name__" := by decide) (hd : (x == ("__debug__" : Str)) = false := by decide) : VE X E O (.Name x pos) (eC (.raw (.ty T))) :=
  ⟨mn_c, _, pe_bltn (v := .ty T) hg hm hv rfl hn hd, fun aS A0 H0 σ H s n xq Q S L hm => hm _ H KpS.refl S.st (by rw [Rep])⟩
theorem ve_gref {x : Str} {a : Addr} (hg : Gl X x) (hm : X.mg x = some (.ref a)) (hd : (x == ("__debug__" : Str)) = false := by decide) : VE X E O (.Name x pos) (eC (.raw (.ref a))) :=
  ⟨mn_c, _, pe_glob (v := .ref a) hg hm rfl hd, fun aS A0 H0 σ H s n xq Q S L hm => hm _ H KpS.refl S.st (by rw [Rep])⟩
/-! and, or, not, if -/
def eAnd (a b : EM D) : EM D := fun xq s n Q => a xq s n fun x n1 => ∃ c, x = .bl c ∧ if c = true then b xq s n1 Q else Q (.bl false) n1
def eOr (a b : EM D) : EM D := fun xq s n Q => a xq s n fun x n1 => ∃ c, x = .bl c ∧ if c = true then Q (.bl true) n1 else b xq s n1 Q
def eNot (a : EM D) : EM D := fun xq s n Q => a xq s n fun x n1 => ∃ c, x = .bl c ∧ Q (.bl (!c)) n1
def eIf (t : EM Bool) (a b : EM D) : EM D := fun xq s n Q => t xq s n fun c n1 => if c = true then a xq s n1 Q else b xq s n1 Q
def tVal (a : EM D) : EM Bool := fun xq s n Q => a xq s n fun x n1 => ∃ c, x = .bl c ∧ Q c n1
def tAndD (a b : EM Bool) : EM Bool := fun xq s n Q => a xq s n fun c n1 => if c = true then b xq s n1 Q else Q false n1
def tOrD (a b : EM Bool) : EM Bool := fun xq s n Q => a xq s n fun c n1 => if c = true then Q true n1 else b xq s n1 Q
def tNotD (a : EM Bool) : EM Bool := fun xq s n Q => a xq s n fun c n1 => Q (!c) n1
/-- a chain of tests (and, or) -/
def VW (X : Cx) (E : XK) (O : List Nat) (e : Expr) (m : EM Bool) : Prop := Mn m ∧ ∃ t, PW X e t ∧ ∀ (aS : Addr) (A0 : A0T) (H0 : Hp) (σ : L2.St) (H : Hp) (s : Ev) (n : Nat) (xq : XQ) (Q : Bool → Hp → Prop), SR X.K aS O A0 H0 σ H s n → LX X.K E aS A0 H0 xq →
  m xq s n (fun b n' => ∀ H', KpS aS H H' → StA X.K aS H' n' → Q b H') → t σ H Q
variable {tA tB : EM Bool} {rest : List Expr}
theorem VW.t (h : VW X E O e tA) : VT X E O e tA := by
  obtain ⟨mn, t, pw, f⟩ := h
  exact ⟨mn, t, pw.pt, f⟩
theorem vw_and1 (ha : VT X E O a tA) : VW X E O (.BoolOp .And [a] pos) tA := by
  obtain ⟨mn, t, p, f⟩ := ha
  exact ⟨mn, t, pw_and1 p, f⟩
theorem vw_or1 (ha : VT X E O a tA) : VW X E O (.BoolOp .Or [a] pos) tA := by
  obtain ⟨mn, t, p, f⟩ := ha
  exact ⟨mn, t, pw_or1 p, f⟩
theorem vw_and (ha : VT X E O a tA) (hb : VW X E O (.BoolOp .And (b :: rest) pos) tB) : VW X E O (.BoolOp .And (a :: b :: rest) pos) (tAndD tA tB) := by
  obtain ⟨mna, ta, pa, fa⟩ := ha
  obtain ⟨mnb, tb, pb, fb⟩ := hb
  refine ⟨fun xq s n Q Q' hq h => mna _ _ _ _ _ (fun c n1 h => ?_) h, _, pw_and pa pb, fun aS A0 H0 σ H s n xq Q S L hm => ?_⟩
  · cases c with
    | true => exact mnb _ _ _ _ _ hq h
    | false => exact hq _ _ h
  · refine fa aS A0 H0 σ H s n xq _ S L (mna _ _ _ _ _ (fun c n1 q H1 k1 st1 => ?_) hm)
    cases c with
    | true => exact fb aS A0 H0 σ H1 s n1 xq _ (S.step k1 st1) L (mnb _ _ _ _ _ (fun c2 n2 q2 H2 k2 st2 => q2 H2 (k1.trans k2) st2) q)
    | false => exact q H1 k1 st1
theorem vw_or (ha : VT X E O a tA) (hb : VW X E O (.BoolOp .Or (b :: rest) pos) tB) : VW X E O (.BoolOp .Or (a :: b :: rest) pos) (tOrD tA tB) := by
  obtain ⟨mna, ta, pa, fa⟩ := ha
  obtain ⟨mnb, tb, pb, fb⟩ := hb
  refine ⟨fun xq s n Q Q' hq h => mna _ _ _ _ _ (fun c n1 h => ?_) h, _, pw_or pa pb, fun aS A0 H0 σ H s n xq Q S L hm => ?_⟩
  · cases c with
    | false => exact mnb _ _ _ _ _ hq h
    | true => exact hq _ _ h
  · refine fa aS A0 H0 σ H s n xq _ S L (mna _ _ _ _ _ (fun c n1 q H1 k1 st1 => ?_) hm)
    cases c with
    | false => exact fb aS A0 H0 σ H1 s n1 xq _ (S.step k1 st1) L (mnb _ _ _ _ _ (fun c2 n2 q2 H2 k2 st2 => q2 H2 (k1.trans k2) st2) q)
    | true => exact q H1 k1 st1
theorem vt_not (ha : VT X E O a tA) : VT X E O (.UnaryOp .Not a pos) (tNotD tA) := by
  obtain ⟨mn, t, p, f⟩ := ha
  exact ⟨fun xq s n Q Q' hq h => mn _ _ _ _ _ (fun c n1 h => hq _ _ h) h, _, pt_not p, fun aS A0 H0 σ H s n xq Q S L hm => f aS A0 H0 σ H s n xq _ S L hm⟩
theorem vt_val (h : VE X E O e m) (he : ∀ whole, isTrue e X.env whole = (do let v ← whole; standAt e.pos; holding [v] (truthy v)) := by intro _; rfl) : VT X E O e (tVal m) := by
  obtain ⟨mn, t, p, f⟩ := h
  refine ⟨fun xq s n Q Q' hq h => mn _ _ _ _ _ (fun _ _ ⟨c, e, q⟩ => ⟨c, e, hq _ _ q⟩) h, _, pt_val p he, fun aS A0 H0 σ H s n xq Q S L hm => ?_⟩
  refine f aS A0 H0 σ H s n xq _ S L (mn _ _ _ _ _ (fun d n1 q v H1 k1 st1 r1 => ?_) hm)
  obtain ⟨c, e, q⟩ := q
  subst e
  rw [Rep] at r1
  exact ⟨c, r1, q H1 k1 st1⟩
theorem ve_one {op} (h : VE X E O a m) : VE X E O (.BoolOp op [a] pos) m := by
  obtain ⟨mn, t, p, f⟩ := h
  exact ⟨mn, t, pe_one p, f⟩
theorem ve_and (ha : VE X E O a ma) (hb : VE X E O (.BoolOp .And (b :: rest) pos) mb) : VE X E O (.BoolOp .And (a :: b :: rest) pos) (eAnd ma mb) := by
  obtain ⟨mna, ta, pa, fa⟩ := ha
  obtain ⟨mnb, tb, pb, fb⟩ := hb
  refine ⟨fun xq s n Q Q' hq h => mna _ _ _ _ _ (fun d n1 h => by
    obtain ⟨c, e, h⟩ := h
    refine ⟨c, e, ?_⟩
    cases c with
    | true => exact mnb _ _ _ _ _ hq h
    | false => exact hq _ _ h) h, _, pe_and pa pb, fun aS A0 H0 σ H s n xq Q S L hm => ?_⟩
  refine fa aS A0 H0 σ H s n xq _ S L (mna _ _ _ _ _ (fun d n1 q v H1 k1 st1 r1 => ?_) hm)
  obtain ⟨c, e, q⟩ := q
  subst e
  rw [Rep] at r1
  refine ⟨c, r1, ?_⟩
  cases c with
  | true => exact fb aS A0 H0 σ H1 s n1 xq _ (S.step k1 st1) L (mnb _ _ _ _ _ (fun d2 n2 q2 v2 H2 k2 st2 r2 => q2 v2 H2 (k1.trans k2) st2 r2) q)
  | false => exact q _ H1 k1 st1 (by rw [Rep])
theorem ve_or (ha : VE X E O a ma) (hb : VE X E O (.BoolOp .Or (b :: rest) pos) mb) : VE X E O (.BoolOp .Or (a :: b :: rest) pos) (eOr ma mb) := by
  obtain ⟨mna, ta, pa, fa⟩ := ha
  obtain ⟨mnb, tb, pb, fb⟩ := hb
  refine ⟨fun xq s n Q Q' hq h => mna _ _ _ _ _ (fun d n1 h => by
    obtain ⟨c, e, h⟩ := h
    refine ⟨c, e, ?_⟩
    cases c with
    | false => exact mnb _ _ _ _ _ hq h
    | true => exact hq _ _ h) h, _, pe_or pa pb, fun aS A0 H0 σ H s n xq Q S L hm => ?_⟩
  refine fa aS A0 H0 σ H s n xq _ S L (mna _ _ _ _ _ (fun d n1 q v H1 k1 st1 r1 => ?_) hm)
  obtain ⟨c, e, q⟩ := q
  subst e
  rw [Rep] at r1
  refine ⟨c, r1, ?_⟩
  cases c with
  | false => exact fb aS A0 H0 σ H1 s n1 xq _ (S.step k1 st1) L (mnb _ _ _ _ _ (fun d2 n2 q2 v2 H2 k2 st2 r2 => q2 v2 H2 (k1.trans k2) st2 r2) q)
  | true => exact q _ H1 k1 st1 (by rw [Rep])
theorem ve_not (ha : VE X E O a ma) : VE X E O (.UnaryOp .Not a pos) (eNot ma) := by
  obtain ⟨mn, t, p, f⟩ := ha
  refine ⟨fun xq s n Q Q' hq h => mn _ _ _ _ _ (fun d n1 ⟨c, e, h⟩ => ⟨c, e, hq _ _ h⟩) h, _, pe_not p, fun aS A0 H0 σ H s n xq Q S L hm => ?_⟩
  refine f aS A0 H0 σ H s n xq _ S L (mn _ _ _ _ _ (fun d n1 ⟨c, e, q⟩ v H1 k1 st1 r1 => ?_) hm)
  subst e
  rw [Rep] at r1
  exact ⟨c, r1, q _ H1 k1 st1 (by rw [Rep])⟩
theorem ve_ifExp {c : Expr} (hc : VT X E O c tA) (ha : VE X E O a ma) (hb : VE X E O b mb) : VE X E O (.IfExp c a b pos) (eIf tA ma mb) := by
  obtain ⟨mnc, tc, pc, fc⟩ := hc
  obtain ⟨mna, ta, pa, fa⟩ := ha
  obtain ⟨mnb, tb, pb, fb⟩ := hb
  refine ⟨fun xq s n Q Q' hq h => mnc _ _ _ _ _ (fun c n1 h => ?_) h, _, pe_ifExp pc pa pb, fun aS A0 H0 σ H s n xq Q S L hm => ?_⟩
  · cases c with
    | true => exact mna _ _ _ _ _ hq h
    | false => exact mnb _ _ _ _ _ hq h
  · refine fc aS A0 H0 σ H s n xq _ S L (mnc _ _ _ _ _ (fun c n1 q H1 k1 st1 => ?_) hm)
    cases c with
    | true => exact fa aS A0 H0 σ H1 s n1 xq _ (S.step k1 st1) L (mna _ _ _ _ _ (fun c2 n2 q2 v2 H2 k2 st2 r2 => q2 v2 H2 (k1.trans k2) st2 r2) q)
    | false => exact fb aS A0 H0 σ H1 s n1 xq _ (S.step k1 st1) L (mnb _ _ _ _ _ (fun c2 n2 q2 v2 H2 k2 st2 r2 => q2 v2 H2 (k1.trans k2) st2 r2) q)
end
end DL
namespace DL
open PySem PySem.Spec PyProof.Rows L2
variable [TabC]
/-! ### sums -/
def LIM : Nat := 100000
def dAdd : D → D → Option D
  | .int i, .int j => some (.int (i + j))
  | .lst xs, .lst ys => if xs.length + ys.length ≤ LIM then some (.lst (xs ++ ys)) else none
  | .tup xs, .tup ys => if xs.length + ys.length ≤ LIM then some (.tup (xs ++ ys)) else none
  | .str x, .str y => if x.length + y.length ≤ LIM then some (.str (x ++ y)) else none
  | _, _ => none
section
variable {K : PySem.W.Frag} {aS : Addr} {H : Hp} {A : AS} {n : Nat} {d : D} {v : V}
theorem repB_int {i : Int} (h : RepB K aS H A (.int i) v) : v = .int i := by
  unfold RepB at h
  simp only [Rep] at h
  exact h
theorem repB_str {i : Str} (h : RepB K aS H A (.str i) v) : v = .str i := by
  unfold RepB at h
  simp only [Rep] at h
  exact h
theorem repB_bl {i : Bool} (h : RepB K aS H A (.bl i) v) : v = .bl i := by
  unfold RepB at h
  simp only [Rep] at h
  exact h
theorem repB_non (h : RepB K aS H A .non v) : v = .non := by
  unfold RepB at h
  simp only [Rep] at h
  exact h
theorem repB_raw {u : V} (h : RepB K aS H A (.raw u) v) : v = u := by
  unfold RepB at h
  simp only [Rep] at h
  exact h
theorem repB_tup {ds : List D} (h : RepB K aS H A (.tup ds) v) : ∃ a xs, v = .ref a ∧ TpA K H a xs ∧ RepL K aS H A ds xs := by
  unfold RepB at h
  simp only [Rep] at h
  exact h
theorem repB_lst {ds : List D} (h : RepB K aS H A (.lst ds) v) : ∃ a xs, v = .ref a ∧ a ≠ aS ∧ H a = some (.lst xs) ∧ RepL K aS H A ds xs := h
theorem repB_dic {ds : List (Key × D)} (h : RepB K aS H A (.dic ds) v) : ∃ a ys, v = .ref a ∧ a ≠ aS ∧ Rd H a (.dK ys) ∧ RepK K aS H A ds ys := h
theorem rep_int {i : Int} : Rep K aS H A (.int i) (.int i) := by rw [Rep]
theorem rep_str {i : Str} : Rep K aS H A (.str i) (.str i) := by rw [Rep]
theorem rep_bl {i : Bool} : Rep K aS H A (.bl i) (.bl i) := by rw [Rep]
theorem rep_non : Rep K aS H A .non .non := by rw [Rep]
theorem rep_tup {ds : List D} {a : Addr} {xs : List V} (h : TpA K H a xs) (r : RepL K aS H A ds xs) : Rep K aS H A (.tup ds) (.ref a) := by rw [Rep]; exact ⟨a, xs, rfl, h, r⟩
theorem lim_line {k : Nat} (h : k ≤ LIM) : k ≤ sizeLine := by unfold LIM at h; rw [sizeLine_eq]; omega
theorem RepL.kpu {ds : List D} {xs : List V} {p : Addr} {o : HO} (c : Cn K aS H A n) (hp : H p = none) (r : RepL K aS H A ds xs) : RepL K aS (upd H p o) A ds xs := r.kp (KpS.upd hp) c.st c.a
end
section
variable {X : Cx}
theorem od_add : OpD X (binaryOp .Add) dAdd := by
  refine ⟨_, OpR.or op_add (OpR.or op_cat (OpR.or op_catA op_add_str)), fun aS H A n d1 d2 d v1 v2 Q c r1 r2 e w => ?_⟩
  unfold dAdd at e
  split at e
  · cases e
    exact .inl ⟨_, _, repB_int r1, repB_int r2, w _ _ KpS.refl c.st rep_int⟩
  · split at e
    · rename_i xs ys hl
      cases e
      obtain ⟨a, us, e1, n1, h1, q1⟩ := repB_lst r1
      obtain ⟨b, ws, e2, n2, h2, q2⟩ := repB_lst r2
      refine .inr (.inl ⟨a, b, us, ws, e1, e2, h1, h2, by rw [q1.length, q2.length]; exact lim_line hl, fun p hp => w _ _ (KpS.upd hp) (c.st.upd hp) ((own_new hp (q1.app q2)).rep (c.new hp))⟩)
    · cases e
  · split at e
    · rename_i xs ys hl
      cases e
      obtain ⟨a, us, e1, h1, q1⟩ := repB_tup r1
      obtain ⟨b, ws, e2, h2, q2⟩ := repB_tup r2
      refine .inr (.inr (.inl ⟨a, b, us, ws, e1, e2, h1.sq, h2.sq, by rw [q1.length, q2.length]; exact lim_line hl, fun z => ?_, fun _ z => ?_, fun _ _ p hp => w _ _ (KpS.upd hp) (c.st.upd hp) (rep_tup (.inl upd_same) ((q1.app q2).kpu c hp))⟩))
      · have ez : xs = [] := List.length_eq_zero_iff.mp (by rw [← q1.length, z]; rfl)
        subst ez
        exact w _ _ KpS.refl c.st (rep_tup h2 q2)
      · have ez : ys = [] := List.length_eq_zero_iff.mp (by rw [← q2.length, z]; rfl)
        subst ez
        rw [List.append_nil] at w
        exact w _ _ KpS.refl c.st (rep_tup h1 q1)
    · cases e
  · split at e
    · rename_i xs ys hl
      cases e
      exact .inr (.inr (.inr ⟨_, _, repB_str r1, repB_str r2, lim_line hl, w _ _ KpS.refl c.st rep_str⟩))
    · cases e
  · cases e
/-- an operation of ints -/
def dInt (C : Int → Int → Bool) (g : Int → Int → Int) : D → D → Option D
  | .int i, .int j => if C i j = true then some (.int (g i j)) else none
  | _, _ => none
theorem od_int {op : Operator} {C : Int → Int → Prop} {C' : Int → Int → Bool} {g : Int → Int → Int} (h : OpR X (binaryOp op) (rI C fun i j => .int (g i j))) (hC : ∀ i j, C' i j = true → C i j) : OpD X (binaryOp op) (dInt C' g) := by
  refine ⟨_, h, fun aS H A n d1 d2 d v1 v2 Q c r1 r2 e w => ?_⟩
  unfold dInt at e
  split at e
  · split at e
    · rename_i hc
      cases e
      exact ⟨_, _, repB_int r1, repB_int r2, hC _ _ hc, w _ _ KpS.refl c.st rep_int⟩
    · cases e
  · cases e
def dSub : D → D → Option D := dInt (fun _ _ => true) (fun i j => i - j)
theorem od_sub : OpD X (binaryOp .Sub) dSub := by
  refine ⟨_, op_sub, fun aS H A n d1 d2 d v1 v2 Q c r1 r2 e w => ?_⟩
  unfold dSub dInt at e
  split at e
  · rw [if_pos rfl] at e
    cases e
    exact ⟨_, _, repB_int r1, repB_int r2, w _ _ KpS.refl c.st rep_int⟩
  · cases e
def dMul : D → D → Option D := dInt (fun i j => decide (-(2 ^ 64) < i ∧ i < 2 ^ 64) || decide (-(2 ^ 64) < j ∧ j < 2 ^ 64)) (fun i j => i * j)
theorem od_mul : OpD X (binaryOp .Mult) dMul := od_int op_mul fun i j h => by
  simp only [Bool.or_eq_true, decide_eq_true_eq] at h
  exact h
def dMod : D → D → Option D := dInt (fun _ j => decide (0 < j)) (fun i j => i % j)
theorem od_mod : OpD X (binaryOp .Mod) dMod := od_int op_mod fun i j h => of_decide_eq_true h
def dFdiv : D → D → Option D := dInt (fun _ j => decide (0 < j ∧ j < 2 ^ 64)) (fun i j => i / j)
theorem od_fdiv : OpD X (binaryOp .FloorDiv) dFdiv := od_int op_fdivW fun i j h => by
  have h := of_decide_eq_true h
  exact wide_div (b := 64) h.1 (by omega) (by decide) (by decide)
def dPow : D → D → Option D := dInt (fun i j => decide (0 ≤ j ∧ j ≤ 1000000 ∧ i.natAbs < 2 ^ 64)) (fun i j => i ^ j.toNat)
theorem od_pow : OpD X (binaryOp .Pow) dPow := od_int op_pow fun i j h => (show 0 ≤ j ∧ j ≤ 1000000 ∧ i.natAbs < 2 ^ 64 from of_decide_eq_true h)
/-! ### comparisons -/
def dCmp (f : Int → Int → Bool) (g : List Nat → List Nat → Bool) : D → D → Option D
  | .int i, .int j => some (.bl (f i j))
  | .str i, .str j => some (.bl (g i.cps.toList j.cps.toList))
  | _, _ => none
theorem od_cmp {op : CmpOp} {f : Int → Int → Bool} {g : List Nat → List Nat → Bool} (h1 : OpR X (compareOp op) (rI0 fun i j => .bl (f i j))) (h2 : OpR X (compareOp op) (fun x y H Q => ∃ i j, x = .str i ∧ y = .str j ∧ Q (.bl (g i.cps.toList j.cps.toList)) H)) : OpD X (compareOp op) (dCmp f g) := by
  refine ⟨_, OpR.or h1 h2, fun aS H A n d1 d2 d v1 v2 Q c r1 r2 e w => ?_⟩
  unfold dCmp at e
  split at e
  · cases e
    exact .inl ⟨_, _, repB_int r1, repB_int r2, w _ _ KpS.refl c.st rep_bl⟩
  · cases e
    exact .inr ⟨_, _, repB_str r1, repB_str r2, w _ _ KpS.refl c.st rep_bl⟩
  · cases e
def dLt : D → D → Option D := dCmp (fun i j => decide (i < j)) (fun x y => decide (x < y))
def dLe : D → D → Option D := dCmp (fun i j => decide (i ≤ j)) (fun x y => !decide (y < x))
def dGt : D → D → Option D := dCmp (fun i j => decide (j < i)) (fun x y => decide (y < x))
def dGe : D → D → Option D := dCmp (fun i j => decide (j ≤ i)) (fun x y => !decide (x < y))
theorem od_lt : OpD X (compareOp .Lt) dLt := od_cmp op_lt op_lt_str
theorem od_le : OpD X (compareOp .LtE) dLe := od_cmp op_le op_le_str
theorem od_gt : OpD X (compareOp .Gt) dGt := od_cmp op_gt op_gt_str
theorem od_ge : OpD X (compareOp .GtE) dGe := od_cmp op_ge op_ge_str
end
/-! ### == by data -/
mutual
def toPD : D → PyData
  | .non => .none
  | .bl b => .bool b
  | .int i => .int i
  | .str x => .str x
  | .lst xs => .list (toPDs xs)
  | .tup xs => .tuple (toPDs xs)
  | _ => .dict []
def toPDs : List D → List PyData
  | [] => []
  | d :: ds => toPD d :: toPDs ds
end
section
variable {K : PySem.W.Frag} {aS : Addr} {H : Hp} {A : AS}
mutual
theorem Rep.dp : ∀ (d : D) (v : V), (toPD d).canLay0 = true → Rep K aS H A d v → Dp K H v (toPD d)
  | .non, v, _, h => by
    simp only [Rep] at h
    subst h
    exact Dp.non
  | .bl b, v, _, h => by
    simp only [Rep] at h
    subst h
    exact Dp.bl b
  | .int i, v, _, h => by
    simp only [Rep] at h
    subst h
    exact Dp.int i
  | .str i, v, _, h => by
    simp only [Rep] at h
    subst h
    exact Dp.str i
  | .lst ds, v, c, h => by
    rw [Rep] at h
    obtain ⟨a, xs, e, n, q, r⟩ := h
    subst e
    rw [toPD] at c ⊢
    exact Dp.lst (SqL.of q) (RepL.dp ds xs (by simpa [PyData.canLay0] using c) r)
  | .tup ds, v, c, h => by
    rw [Rep] at h
    obtain ⟨a, xs, e, q, r⟩ := h
    subst e
    rw [toPD] at c ⊢
    exact Dp.tup q.sq (RepL.dp ds xs (by simpa [PyData.canLay0] using c) r)
  | .raw u, v, c, h => by simp [toPD, PyData.canLay0] at c
  | .st, v, c, h => by simp [toPD, PyData.canLay0] at c
  | .dic u, v, c, h => by simp [toPD, PyData.canLay0] at c
  | .obj C u, v, c, h => by simp [toPD, PyData.canLay0] at c
theorem RepL.dp : ∀ (ds : List D) (vs : List V), PyData.canLayAll0 (toPDs ds) = true → RepL K aS H A ds vs → DpAll K H vs (toPDs ds)
  | [], vs, _, h => by
    rw [RepL] at h
    subst h
    exact DpAll.nil
  | d :: ds, vs, c, h => by
    rw [RepL] at h
    obtain ⟨v, vr, e, r, q⟩ := h
    subst e
    have c' : (toPD d).canLay0 = true ∧ PyData.canLayAll0 (toPDs ds) = true := by simpa [toPDs, PyData.canLayAll0] using c
    rw [toPDs]
    exact DpAll.cons (Rep.dp d v c'.1 r) (RepL.dp ds vr c'.2 q)
end
theorem RepB.dp {d : D} {v : V} (c : (toPD d).canLay0 = true) (h : RepB K aS H A d v) : Dp K H v (toPD d) := by
  cases d with
  | lst ds =>
    obtain ⟨a, xs, e, n, q, r⟩ := h
    subst e
    rw [toPD] at c ⊢
    exact Dp.lst (SqL.of q) (RepL.dp ds xs (by simpa [PyData.canLay0] using c) r)
  | dic ds => simp [toPD, PyData.canLay0] at c
  | obj C ds => simp [toPD, PyData.canLay0] at c
  | non => exact Rep.dp (aS := aS) (A := A) .non _ c h
  | bl b => exact Rep.dp (aS := aS) (A := A) (.bl b) _ c h
  | int b => exact Rep.dp (aS := aS) (A := A) (.int b) _ c h
  | str b => exact Rep.dp (aS := aS) (A := A) (.str b) _ c h
  | raw b => exact Rep.dp (aS := aS) (A := A) (.raw b) _ c h
  | st => exact Rep.dp (aS := aS) (A := A) .st _ c h
  | tup b => exact Rep.dp (aS := aS) (A := A) (.tup b) _ c h
end
def okD (d : D) : Bool := SeqAt.shaped (toPD d)
theorem okD_lay {d : D} (h : okD d = true) : (toPD d).canLay0 = true := by
  unfold okD SeqAt.shaped at h
  exact (Bool.and_eq_true_iff.mp h).1
def pyEq (a b : D) : Bool := (toPD a).eqv (toPD b)
def dEq (a b : D) : Option D := if (okD a && okD b) = true then some (.bl (pyEq a b)) else none
def dNe (a b : D) : Option D := if (okD a && okD b) = true then some (.bl (!pyEq a b)) else none
section
variable {X : Cx}
theorem od_eq (hu : X.A.units + 64 < cLine) : OpD X (compareOp .Eq) dEq := by
  refine ⟨_, op_eqD hu, fun aS H A n d1 d2 d v1 v2 Q c r1 r2 e w => ?_⟩
  unfold dEq at e
  split at e
  · rename_i h
    cases e
    obtain ⟨h1, h2⟩ := Bool.and_eq_true_iff.mp h
    exact ⟨_, _, r1.dp (okD_lay h1), r2.dp (okD_lay h2), h1, h2, w _ _ KpS.refl c.st rep_bl⟩
  · cases e
theorem od_ne (hu : X.A.units + 64 < cLine) : OpD X (compareOp .NotEq) dNe := by
  refine ⟨_, op_neD hu, fun aS H A n d1 d2 d v1 v2 Q c r1 r2 e w => ?_⟩
  unfold dNe at e
  split at e
  · rename_i h
    cases e
    obtain ⟨h1, h2⟩ := Bool.and_eq_true_iff.mp h
    exact ⟨_, _, r1.dp (okD_lay h1), r2.dp (okD_lay h2), h1, h2, w _ _ KpS.refl c.st rep_bl⟩
  · cases e
end
/-! ### in -/
def flatD : D → Bool
  | .non => true
  | .bl _ => true
  | .int _ => true
  | .str _ => true
  | _ => false
def keyD : D → Option Key
  | .int i => some (.inl i)
  | .str x => some (.inr x)
  | _ => none
def lookK (kvs : List (Key × D)) (k : Key) : Option D := (kvs.find? fun kv => decide (kv.1 = k)).map (·.2)
def dInB : D → D → Option Bool
  | x, .lst ys => if (okD x && okD (.lst ys)) = true then some (ys.any fun y => pyEq y x) else none
  | x, .tup ys => if (flatD x && ys.all flatD) = true then some (ys.any fun y => pyEq y x) else none
  | x, .dic kvs => (keyD x).map fun k => (lookK kvs k).isSome
  | .str c, .str z => match c.cps.toList with
    | [k] => some (decide (k ∈ z.cps.toList))
    | _ => none
  | _, _ => none
def dIn (x y : D) : Option D := (dInB x y).map .bl
def dNotIn (x y : D) : Option D := (dInB x y).map fun b => .bl (!b)
section
variable {K : PySem.W.Frag} {aS : Addr} {H : Hp} {A : AS}
theorem flat_rep : ∀ {d : D} {v : V}, flatD d = true → Rep K aS H A d v → flatV v = true ∧ ∀ (e : D) (u : V), flatD e = true → Rep K aS H A e u → eqV v u = pyEq d e := by
  intro d v h r
  cases d <;> simp only [flatD, Bool.false_eq_true] at h <;> simp only [Rep] at r <;> subst r <;> refine ⟨rfl, fun e u h2 r2 => ?_⟩ <;> cases e <;> simp only [flatD, Bool.false_eq_true] at h2 <;> simp only [Rep] at r2 <;> subst r2 <;> simp [eqV, pyEq, toPD, PyData.eqv]
theorem flat_all : ∀ {ds : List D} {vs : List V} {x : D} {v : V}, ds.all flatD = true → RepL K aS H A ds vs → flatD x = true → Rep K aS H A x v → vs.all flatV = true ∧ inV v vs = ds.any (fun y => pyEq y x)
  | [], vs, x, v, _, h, _, _ => by
    rw [RepL] at h
    subst h
    exact ⟨rfl, rfl⟩
  | d :: ds, vs, x, v, h, r, hx, rx => by
    rw [RepL] at r
    obtain ⟨w, vr, e, r, q⟩ := r
    subst e
    rw [List.all_cons] at h
    obtain ⟨h1, h2⟩ := Bool.and_eq_true_iff.mp h
    obtain ⟨f1, f2⟩ := flat_rep h1 r
    obtain ⟨i1, i2⟩ := flat_all h2 q hx rx
    refine ⟨by rw [List.all_cons, f1, i1]; rfl, ?_⟩
    unfold inV at i2 ⊢
    rw [List.any_cons, List.any_cons, i2, f2 x v hx rx]
theorem any_pds (x : D) : ∀ ys : List D, (toPDs ys).any (fun z => PyData.eqv z (toPD x)) = ys.any fun y => pyEq y x
  | [] => rfl
  | y :: ys => by rw [toPDs, List.any_cons, List.any_cons, any_pds x ys]; rfl
theorem RepK.val : ∀ {ds : List (Key × D)} {vs : List (Key × V)} (k : Key), RepK K aS H A ds vs → (lookK ds k = none ∧ valV vs k = none) ∨ ∃ d v, lookK ds k = some d ∧ valV vs k = some v ∧ Rep K aS H A d v
  | [], vs, k, h => by
    rw [RepK] at h
    subst h
    exact .inl ⟨rfl, rfl⟩
  | (k', d) :: ds, vs, k, h => by
    rw [RepK] at h
    obtain ⟨v, vr, e, r, q⟩ := h
    subst e
    unfold lookK valV
    rw [List.find?_cons, List.find?_cons]
    by_cases hk : k' = k
    · simp only [hk, decide_true]
      exact .inr ⟨d, v, rfl, rfl, r⟩
    · simp only [hk, decide_false]
      exact RepK.val k q
theorem key_rep {d : D} {v : V} {k : Key} (h : keyD d = some k) (r : RepB K aS H A d v) : v = kV k := by
  cases d <;> simp only [keyD] at h <;> cases h
  · exact repB_int r
  · exact repB_str r
end
section
variable {X : Cx}
theorem op_dIn (hu : X.A.units + 1 < cLine) : OpR X (compareOp .In) (fun x y H Q => ∃ a o, y = .ref a ∧ DGet H a x o ∧ Q (.bl o.isSome) H) :=
  fun _ _ _ H _ _ _ _ _ inv rx ry ⟨_, o, ey, g, q⟩ => by
    subst ey
    cases ry
    exact d_in hu inv g rx fun _ inv' => ⟨.bl o.isSome, H, inv', rfl, q⟩
theorem op_dNotIn (hu : X.A.units + 1 < cLine) : OpR X (compareOp .NotIn) (fun x y H Q => ∃ a o, y = .ref a ∧ DGet H a x o ∧ Q (.bl (!o.isSome)) H) :=
  fun _ _ _ H _ _ _ _ _ inv rx ry ⟨_, o, ey, g, q⟩ => by
    subst ey
    cases ry
    exact d_notIn hu inv g rx fun _ inv' => ⟨.bl (!o.isSome), H, inv', rfl, q⟩
theorem od_in (hu : X.A.units + 65 < cLine) : OpD X (compareOp .In) dIn := by
  refine ⟨_, OpR.or (op_inD hu) (OpR.or op_in_seq (OpR.or (op_dIn (by omega)) op_in_sign)), fun aS H A n d1 d2 d v1 v2 Q c r1 r2 e w => ?_⟩
  unfold dIn at e
  cases hb : dInB d1 d2 with
  | none => rw [hb] at e; cases e
  | some b =>
    rw [hb] at e
    cases e
    unfold dInB at hb
    split at hb
    · split at hb
      · rename_i x ys h
        cases hb
        obtain ⟨h1, h2⟩ := Bool.and_eq_true_iff.mp h
        have q2 := r2.dp (okD_lay h2)
        rw [toPD] at q2
        refine .inl ⟨_, _, r1.dp (okD_lay h1), q2, h1, h2, ?_⟩
        rw [any_pds]
        exact w _ _ KpS.refl c.st rep_bl
      · cases hb
    · split at hb
      · rename_i x ys h
        cases hb
        obtain ⟨h1, h2⟩ := Bool.and_eq_true_iff.mp h
        obtain ⟨a, xs, e2, h3, q2⟩ := repB_tup r2
        have r1' : Rep X.K aS H A d1 v1 := by cases d1 <;> first | exact r1 | (simp only [flatD, Bool.false_eq_true] at h1)
        obtain ⟨i1, i2⟩ := flat_all h2 q2 h1 r1'
        refine .inr (.inl ⟨a, xs, e2, .inr h3.sq, (flat_rep h1 r1').1, i1, ?_⟩)
        rw [if_neg (by decide), i2]
        exact w _ _ KpS.refl c.st rep_bl
      · cases hb
    · rename_i x kvs
      cases hk : keyD d1 with
      | none => rw [hk] at hb; cases hb
      | some k =>
        rw [hk] at hb
        cases hb
        obtain ⟨a, ys, e2, n2, h3, q2⟩ := repB_dic r2
        have e1 := key_rep hk r1
        refine .inr (.inr (.inl ⟨a, valV ys k, e2, .inl ⟨ys, k, h3, e1, rfl⟩, ?_⟩))
        rcases q2.val k with ⟨z1, z2⟩ | ⟨d, v, z1, z2, z3⟩
        · simp only [z1] at w
          rw [z2]
          exact w _ _ KpS.refl c.st rep_bl
        · simp only [z1] at w
          rw [z2]
          exact w _ _ KpS.refl c.st rep_bl
    · rename_i x z
      split at hb
      · rename_i k hk
        cases hb
        have ex : x = ⟨#[k]⟩ := by
          obtain ⟨cp⟩ := x
          have : cp.toList = [k] := hk
          rw [← Array.toArray_toList (xs := cp), this]
        rw [ex] at r1
        exact .inr (.inr (.inr ⟨k, z, repB_str r1, repB_str r2, w _ _ KpS.refl c.st rep_bl⟩))
      · cases hb
    · cases hb
theorem od_notIn (hu : X.A.units + 65 < cLine) : OpD X (compareOp .NotIn) dNotIn := by
  refine ⟨_, OpR.or (op_notInD hu) (OpR.or op_notIn_seq (OpR.or (op_dNotIn (by omega)) op_notIn_sign)), fun aS H A n d1 d2 d v1 v2 Q c r1 r2 e w => ?_⟩
  unfold dNotIn at e
  cases hb : dInB d1 d2 with
  | none => rw [hb] at e; cases e
  | some b =>
    rw [hb] at e
    cases e
    unfold dInB at hb
    split at hb
    · split at hb
      · rename_i x ys h
        cases hb
        obtain ⟨h1, h2⟩ := Bool.and_eq_true_iff.mp h
        have q2 := r2.dp (okD_lay h2)
        rw [toPD] at q2
        refine .inl ⟨_, _, r1.dp (okD_lay h1), q2, h1, h2, ?_⟩
        rw [any_pds]
        exact w _ _ KpS.refl c.st rep_bl
      · cases hb
    · split at hb
      · rename_i x ys h
        cases hb
        obtain ⟨h1, h2⟩ := Bool.and_eq_true_iff.mp h
        obtain ⟨a, xs, e2, h3, q2⟩ := repB_tup r2
        have r1' : Rep X.K aS H A d1 v1 := by cases d1 <;> first | exact r1 | (simp only [flatD, Bool.false_eq_true] at h1)
        obtain ⟨i1, i2⟩ := flat_all h2 q2 h1 r1'
        refine .inr (.inl ⟨a, xs, e2, .inr h3.sq, (flat_rep h1 r1').1, i1, ?_⟩)
        rw [if_pos rfl, i2]
        exact w _ _ KpS.refl c.st rep_bl
      · cases hb
    · rename_i x kvs
      cases hk : keyD d1 with
      | none => rw [hk] at hb; cases hb
      | some k =>
        rw [hk] at hb
        cases hb
        obtain ⟨a, ys, e2, n2, h3, q2⟩ := repB_dic r2
        have e1 := key_rep hk r1
        refine .inr (.inr (.inl ⟨a, valV ys k, e2, .inl ⟨ys, k, h3, e1, rfl⟩, ?_⟩))
        rcases q2.val k with ⟨z1, z2⟩ | ⟨d, v, z1, z2, z3⟩
        · simp only [z1] at w
          rw [z2]
          exact w _ _ KpS.refl c.st rep_bl
        · simp only [z1] at w
          rw [z2]
          exact w _ _ KpS.refl c.st rep_bl
    · rename_i x z
      split at hb
      · rename_i k hk
        cases hb
        have ex : x = ⟨#[k]⟩ := by
          obtain ⟨cp⟩ := x
          have : cp.toList = [k] := hk
          rw [← Array.toArray_toList (xs := cp), this]
        rw [ex] at r1
        exact .inr (.inr (.inr ⟨k, z, repB_str r1, repB_str r2, w _ _ KpS.refl c.st rep_bl⟩))
      · cases hb
    · cases hb
end
end DL
namespace DL
open PySem PySem.Spec PyProof.Rows L2
variable [TabC]
/-! ### subscripts -/
def dIdx : D → D → Option D
  | .lst xs, .int i => atI xs i
  | .tup xs, .int i => atI xs i
  | .str x, .int i => if x.length ≤ LIM then (atI x.cps.toList i).map fun c => .str ⟨#[c]⟩ else none
  | .dic kvs, k => (keyD k).bind (lookK kvs)
  | _, _ => none
theorem RepL.atI {K : PySem.W.Frag} {aS : Addr} {H : Hp} {A : AS} {ds : List D} {vs : List V} {i : Int} {d : D} (r : RepL K aS H A ds vs) (h : L2.atI ds i = some d) : ∃ v, L2.atI vs i = some v ∧ Rep K aS H A d v := by
  unfold L2.atI at h ⊢
  rw [r.length]
  cases e : ixN ds.length i with
  | none => rw [e] at h; cases h
  | some j =>
    rw [e] at h
    exact r.get h
section
variable {X : Cx} {E : XK} {O : List Nat} {a b e : Expr} {ma mb m : EM D} {pos : Pos}
/-- a dict by a key, read whatever its lock -/
theorem ix_dict (hu : X.A.units + 1 < cLine) : IxR X (fun x y H Q => ∃ a v, x = .ref a ∧ DGet H a y (some v) ∧ Q v H) :=
  fun _ _ _ _ _ H _ _ _ _ _ I rx ry ⟨_, v, ex, g, q⟩ hs => by
    subst ex
    cases rx
    exact tail_any (dict_typeIs I g) PySem.F.slot_dict_getitem.lookup (d_getItem hu I g ry fun _ _ I' r' => ⟨v, H, I', r', q⟩) hs
theorem ve_sub (hu : X.A.units + 1 < cLine) (ha : VB X E O a ma) (hb : VB X E O b mb) (hp : PlainIx b) : VE X E O (.Subscript a b pos) (eBin dIdx ma mb) := by
  obtain ⟨mna, ta, pa, fa⟩ := ha
  obtain ⟨mnb, tb, pb, fb⟩ := hb
  refine ⟨mn_bin mna mnb, _, pe_ix (IxR.or ix_list (IxR.or ix_tup (IxR.or ix_str (ix_dict hu)))) pa pb hp, fun aS A0 H0 σ H s n xq Q S L hm => ?_⟩
  refine fa aS A0 H0 σ H s n xq _ S L (mna _ _ _ _ _ (fun d1 n1 q v1 H1 k1 st1 r0 => ?_) hm)
  refine fb aS A0 H0 σ H1 s n1 xq _ (S.step k1 st1) L (mnb _ _ _ _ _ (fun d2 n2 q2 v2 H2 k2 st2 r2 => ?_) q)
  obtain ⟨d, e, q3⟩ := q2
  have r1 := r0.kp k2 st1 AV.st
  clear r0
  have w := fun v r => q3 v H2 (k1.trans k2) st2 r
  unfold dIdx at e
  split at e
  · obtain ⟨p, xs, e1, _, h1, rl⟩ := repB_lst r1
    obtain ⟨v, e2, r⟩ := rl.atI e
    exact .inl ⟨p, xs, _, v, e1, repB_int r2, SqL.of h1, e2, w v r⟩
  · obtain ⟨p, xs, e1, h1, rl⟩ := repB_tup r1
    obtain ⟨v, e2, r⟩ := rl.atI e
    exact .inr (.inl ⟨p, xs, _, v, e1, repB_int r2, h1.sq, e2, w v r⟩)
  · split at e
    · rename_i x i hl
      cases ec : L2.atI x.cps.toList i with
      | none => rw [ec] at e; cases e
      | some c =>
        rw [ec] at e
        cases e
        exact .inr (.inr (.inl ⟨x, i, c, repB_str r1, repB_int r2, lim_line hl, ec, w _ rep_str⟩))
    · cases e
  · cases ek : keyD d2 with
    | none => rw [ek] at e; cases e
    | some k =>
      rw [ek] at e
      obtain ⟨p, ys, e1, _, h1, rk⟩ := repB_dic r1
      rcases rk.val k with ⟨z1, z2⟩ | ⟨d', v, z1, z2, z3⟩
      · have e : lookK _ k = some d := e
        rw [z1] at e; cases e
      · have e : lookK _ k = some d := e
        rw [z1] at e
        cases e
        exact .inr (.inr (.inr ⟨p, v, e1, .inl ⟨ys, k, h1, key_rep ek r2, z2.symm⟩, w v z3⟩))
  · cases e
/-! ### slices -/
def cutL {α : Type} (xs : List α) (lo hi : Option Int) : List α := (xs.drop (HT.sIx xs.length 0 lo)).take (HT.sIx xs.length xs.length hi - HT.sIx xs.length 0 lo)
def dSl : D → Option Int → Option Int → Option D
  | .lst xs, lo, hi => some (.lst (cutL xs lo hi))
  | .tup xs, lo, hi => some (.tup (cutL xs lo hi))
  | .str x, lo, hi => if x.length ≤ LIM then some (.str (cutS x lo hi)) else none
  | _, _, _ => none
theorem RepL.cut {K : PySem.W.Frag} {aS : Addr} {H : Hp} {A : AS} {ds : List D} {vs : List V} {lo hi : Option Int} (r : RepL K aS H A ds vs) : RepL K aS H A (cutL ds lo hi) (cutV vs lo hi) := by
  unfold cutL cutV
  rw [r.length]
  exact (r.drop _).take _
def VO (X : Cx) (E : XK) (O : List Nat) (e : Option Expr) (m : EM (Option Int)) : Prop := Mn m ∧ ∃ t, PO X e t ∧ ∀ (aS : Addr) (A0 : A0T) (H0 : Hp) (σ : L2.St) (H : Hp) (s : Ev) (n : Nat) (xq : XQ) (Q : Option Int → Hp → Prop), SR X.K aS O A0 H0 σ H s n → LX X.K E aS A0 H0 xq →
  m xq s n (fun b n' => ∀ H', KpS aS H H' → StA X.K aS H' n' → Q b H') → t σ H Q
def oNone : EM (Option Int) := fun _ _ n Q => Q none n
def oSome (m : EM D) : EM (Option Int) := fun xq s n Q => m xq s n fun d n1 => ∃ i, d = .int i ∧ Q (some i) n1
theorem vo_none : VO X E O none oNone := ⟨fun _ _ _ _ _ hq h => hq _ _ h, _, po_none, fun aS A0 H0 σ H s n xq Q S L hm => hm H KpS.refl S.st⟩
theorem vo_some (h : VB X E O e m) : VO X E O (some e) (oSome m) := by
  obtain ⟨mn, t, p, f⟩ := h
  refine ⟨fun xq s n Q Q' hq h => mn _ _ _ _ _ (fun _ _ ⟨i, e, q⟩ => ⟨i, e, hq _ _ q⟩) h, _, po_some p, fun aS A0 H0 σ H s n xq Q S L hm => ?_⟩
  refine f aS A0 H0 σ H s n xq _ S L (mn _ _ _ _ _ (fun d n1 q v H1 k1 st1 r1 => ?_) hm)
  obtain ⟨i, e, q⟩ := q
  subst e
  exact ⟨i, repB_int r1, q H1 k1 st1⟩
def eSl (m : EM D) (lo hi : EM (Option Int)) : EM D := fun xq s n Q => m xq s n fun d n1 => lo xq s n1 fun l n2 => hi xq s n2 fun h n3 => ∃ r, dSl d l h = some r ∧ Q r n3
theorem ve_slice {lo hi : Option Expr} {ml mh : EM (Option Int)} {p2 : Pos} (ha : VB X E O a ma) (hl : VO X E O lo ml) (hh : VO X E O hi mh) : VE X E O (.Subscript a (.Slice lo hi none p2) pos) (eSl ma ml mh) := by
  obtain ⟨mna, ta, pa, fa⟩ := ha
  obtain ⟨mnl, tl, pl, fl⟩ := hl
  obtain ⟨mnh, th, ph, fh⟩ := hh
  refine ⟨fun xq s n Q Q' hq h => mna _ _ _ _ _ (fun _ _ h => mnl _ _ _ _ _ (fun _ _ h => mnh _ _ _ _ _ (fun _ _ ⟨r, e, q⟩ => ⟨r, e, hq _ _ q⟩) h) h) h, _,
    pe_slice (SlR.or sl_list (SlR.or sl_tupA sl_str)) pa pl ph, fun aS A0 H0 σ H s n xq Q S L hm => ?_⟩
  refine fa aS A0 H0 σ H s n xq _ S L (mna _ _ _ _ _ (fun d1 n1 q0 v1 H1 k1 st1 r0 => ?_) hm)
  refine fl aS A0 H0 σ H1 s n1 xq _ (S.step k1 st1) L (mnl _ _ _ _ _ (fun d2 n2 q2 H2 k2 st2 => ?_) q0)
  refine fh aS A0 H0 σ H2 s n2 xq _ ((S.step k1 st1).step k2 st2) L (mnh _ _ _ _ _ (fun d3 n3 q3 H3 k3 st3 => ?_) q2)
  obtain ⟨r, e, q⟩ := q3
  have r1 := (r0.kp k2 st1 AV.st).kp k3 st2 AV.st
  clear r0
  have kk := (k1.trans k2).trans k3
  have c := (S.step kk st3).cn
  unfold dSl at e
  split at e
  · cases e
    obtain ⟨p, xs, e1, _, h1, rl⟩ := repB_lst r1
    exact .inl ⟨p, xs, e1, SqL.of h1, fun q' hq' => q _ _ (kk.trans (KpS.upd hq')) (st3.upd hq') ((own_new hq' rl.cut).rep (c.new hq'))⟩
  · cases e
    rename_i ds
    obtain ⟨p, xs, e1, h1, rl⟩ := repB_tup r1
    refine .inr (.inl ⟨p, xs, e1, h1.sq, fun hw => q _ _ kk st3 (rep_tup h1 ?_), fun _ q' hq' => q _ _ (kk.trans (KpS.upd hq')) (st3.upd hq') (rep_tup (.inl upd_same) (rl.cut.kpu c hq'))⟩)
    have e2 : cutL ds d2 d3 = ds := by
      unfold cutL
      rw [← rl.length, hw.1, hw.2, List.drop_zero, Nat.sub_zero, rl.length, List.take_length]
    rw [e2]
    exact rl
  · split at e
    · rename_i x hl
      cases e
      exact .inr (.inr ⟨x, repB_str r1, lim_line hl, q _ _ kk st3 rep_str⟩)
    · cases e
  · cases e
end
/-! ### calls of built-ins -/
def dLen : List D → Option D
  | [.lst xs] => some (.int xs.length)
  | [.tup xs] => some (.int xs.length)
  | [.str x] => if x.length ≤ LIM then some (.int x.length) else none
  | [.dic kvs] => some (.int kvs.length)
  | _ => none
theorem rl_one {R : RK} {K : PySem.W.Frag} {aS : Addr} {H : Hp} {A : AS} {d : D} {vs : List V} (h : RL R K aS H A [d] vs) : ∃ v, vs = [v] ∧ R K aS H A d v := by
  obtain ⟨v, vr, e, r, q⟩ := h
  have q : vr = [] := q
  exact ⟨v, by rw [e, q], r⟩
theorem rl_two {R : RK} {K : PySem.W.Frag} {aS : Addr} {H : Hp} {A : AS} {d1 d2 : D} {vs : List V} (h : RL R K aS H A [d1, d2] vs) : ∃ v w, vs = [v, w] ∧ R K aS H A d1 v ∧ R K aS H A d2 w := by
  obtain ⟨v, vr, e, r, q⟩ := h
  obtain ⟨w, e2, r2⟩ := rl_one q
  exact ⟨v, w, by rw [e, e2], r, r2⟩
theorem RepK.length {K : PySem.W.Frag} {aS : Addr} {H : Hp} {A : AS} : ∀ {ds : List (Key × D)} {vs : List (Key × V)}, RepK K aS H A ds vs → vs.length = ds.length
  | [], _, h => by rw [RepK] at h; rw [h]; rfl
  | (k, d) :: ds, vs, h => by
    rw [RepK] at h
    obtain ⟨v, vr, e, r, q⟩ := h
    rw [e, List.length_cons, List.length_cons, RepK.length q]
theorem RepK.keys {K : PySem.W.Frag} {aS : Addr} {H : Hp} {A : AS} : ∀ {ds : List (Key × D)} {vs : List (Key × V)}, RepK K aS H A ds vs → vs.map (·.1) = ds.map (·.1)
  | [], _, h => by rw [RepK] at h; rw [h]; rfl
  | (k, d) :: ds, vs, h => by
    rw [RepK] at h
    obtain ⟨v, vr, e, r, q⟩ := h
    rw [e, List.map_cons, List.map_cons, RepK.keys q]
def kD : Key → D
  | .inl i => .int i
  | .inr x => .str x
theorem rep_kD {K : PySem.W.Frag} {aS : Addr} {H : Hp} {A : AS} (k : Key) : Rep K aS H A (kD k) (kV k) := by
  cases k with
  | inl i => exact rep_int
  | inr x => exact rep_str
theorem rep_keys {K : PySem.W.Frag} {aS : Addr} {H : Hp} {A : AS} : ∀ ks : List Key, RepL K aS H A (ks.map kD) (ks.map kV)
  | [] => RepL.nil
  | k :: ks => RepL.cons (rep_kD k) (rep_keys ks)
section
variable {X : Cx}
/-- len of a dict, locked or not -/
theorem call_lenR : CallR X (.builtin "len") (fun xs H Q => ∃ a kvs, xs = [V.ref a] ∧ Rd H a (.dK kvs) ∧ Q (.int kvs.length) H) :=
  fun _ _ _ H _ _ _ inv rel ⟨_, kvs, ex, rd, q⟩ => by
    subst ex
    obtain ⟨u, eu, ru⟩ := vals1 rel
    subst eu
    cases ru
    exact d_len inv rd fun t _ inv' => ⟨.int kvs.length, H, inv', ⟨t, rfl⟩, q⟩
theorem cd_len : CallD X (.builtin "len") dLen := by
  refine ⟨_, CallR.or call_len call_lenR, fun aS H A n ds d vs Q c rl e w => ?_⟩
  unfold dLen at e
  split at e
  · cases e
    obtain ⟨v, e1, r⟩ := rl_one rl
    obtain ⟨p, xs, e2, _, h1, q⟩ := repB_lst r
    subst e1 e2
    refine .inl ⟨_, xs.length, rfl, .inl ⟨xs, SqL.of h1, rfl⟩, ?_⟩
    rw [q.length]
    exact w _ _ KpS.refl c.st rep_int
  · cases e
    obtain ⟨v, e1, r⟩ := rl_one rl
    obtain ⟨p, xs, e2, h1, q⟩ := repB_tup r
    subst e1 e2
    refine .inl ⟨_, xs.length, rfl, .inr ⟨xs, h1.sq, rfl⟩, ?_⟩
    rw [q.length]
    exact w _ _ KpS.refl c.st rep_int
  · split at e
    · rename_i x hl
      cases e
      obtain ⟨v, e1, r⟩ := rl_one rl
      have e2 := repB_str r
      subst e1 e2
      exact .inl ⟨_, _, rfl, ⟨lim_line hl, rfl⟩, w _ _ KpS.refl c.st rep_int⟩
    · cases e
  · cases e
    obtain ⟨v, e1, r⟩ := rl_one rl
    obtain ⟨p, xs, e2, _, h1, q⟩ := repB_dic r
    subst e1 e2
    refine .inr ⟨_, xs, rfl, h1, ?_⟩
    rw [q.length]
    exact w _ _ KpS.refl c.st rep_int
  · cases e
/-- what a walk over the keys has gathered are the keys -/
theorem keys_got {kvs : List (Key × V)} {vs : List (Key × Value)} {acc : Array Value} (rel : KV kvs vs) (len : acc.size = vs.length) (each : ∀ (j : Nat) (w : Value), acc[j]? = some w → ∃ (k : Key) (y : Value), vs[j]? = some (k, y) ∧ keyIs k w = true) : Vals ((kvs.map (·.1)).map kV) acc.toList :=
  vals_of_at (by simpa [len] using KV.length rel) fun j x w ex ew => by
    obtain ⟨k, y, at_, is⟩ := each j w (by rwa [Array.getElem?_toList] at ew)
    have key : ((kvs.map (·.1)).map kV)[j]? = some (kV k) := by rw [KV.keys rel, List.getElem?_map, List.getElem?_map, at_]; rfl
    cases key.symm.trans ex
    exact keyIs_rel is
/-- list(d), whether d is locked or not -/
theorem call_listR (hc : X.calm = true) : CallR X (.type "list") (fun xs H Q => ∃ p kvs, xs = [.ref p] ∧ Rd H p (.dK kvs) ∧ ∀ q, H q = none → Q (.ref q) (upd H q (.lst ((kvs.map (·.1)).map kV)))) :=
  fun pins s σ H _ _ Q inv rel ⟨p, kvs, ex, rd, q⟩ => by
    subst ex
    obtain ⟨u, eu, ru⟩ := vals1 rel
    subst eu
    cases ru
    obtain ⟨few, notSys, vs, kv, dict⟩ := dk_rd inv.hok rd
    obtain ⟨ep, laid⟩ := dict.dictAt
    refine PySem.W.kdl_call (PySem.W.kdl_dict (knd := mixKind X.prog X.w) (kvs := vs) (ep := ep) notSys) (inv.ok.hd hc) laid (KV.length kv ▸ few) fun h' tk acc c' same made got => ?_
    have new : ObjOk X.prog X.w (upd H s.heap.objs.size (.lst ((kvs.map (·.1)).map kV))) h' s.heap.objs.size (.lst ((kvs.map (·.1)).map kV)) := ⟨by simpa using few, _, c', keys_got kv got.1 got.2, by simpa using made⟩
    exact ⟨.ref s.heap.objs.size, _, inv.laid same (Nat.le_refl _) new, rfl, q _ (inv.hok.fresh (Nat.le_refl _))⟩
def dList : List D → Option D
  | [.lst xs] => some (.lst xs)
  | [.tup xs] => some (.lst xs)
  | [.dic kvs] => some (.lst ((kvs.map (·.1)).map kD))
  | _ => none
theorem cf_list (hc : X.calm = true) : CallF X (.type "list") dList := by
  refine ⟨_, CallR.or call_list_of (call_listR hc), fun aS H A n ds d vs Q c rl e w => ?_⟩
  unfold dList at e
  split at e
  · cases e
    obtain ⟨v, e1, r⟩ := rl_one rl
    obtain ⟨p, xs, e2, _, h1, q⟩ := repB_lst r
    subst e1 e2
    exact .inl ⟨p, xs, rfl, .inl (SqL.of h1), fun l hl => w _ _ hl (KpS.upd hl) (c.st.upd hl) (own_new hl q)⟩
  · cases e
    obtain ⟨v, e1, r⟩ := rl_one rl
    obtain ⟨p, xs, e2, h1, q⟩ := repB_tup r
    subst e1 e2
    exact .inl ⟨p, xs, rfl, .inr h1.sq, fun l hl => w _ _ hl (KpS.upd hl) (c.st.upd hl) (own_new hl q)⟩
  · cases e
    obtain ⟨v, e1, r⟩ := rl_one rl
    obtain ⟨p, xs, e2, _, h1, q⟩ := repB_dic r
    subst e1 e2
    refine .inr ⟨p, xs, rfl, h1, fun l hl => w _ _ hl (KpS.upd hl) (c.st.upd hl) (own_new hl ?_)⟩
    rw [q.keys]
    exact rep_keys _
  · cases e
def dTuple : List D → Option D
  | [.lst xs] => some (.tup xs)
  | [.tup xs] => some (.tup xs)
  | _ => none
theorem cd_tuple : CallD X (.type "tuple") dTuple := by
  refine ⟨_, call_tuple_of, fun aS H A n ds d vs Q c rl e w => ?_⟩
  unfold dTuple at e
  split at e
  · cases e
    obtain ⟨v, e1, r⟩ := rl_one rl
    obtain ⟨p, xs, e2, _, h1, q⟩ := repB_lst r
    subst e1 e2
    exact ⟨p, xs, rfl, .inl ⟨SqL.of h1, fun l hl => w _ _ (KpS.upd hl) (c.st.upd hl) (rep_tup (.inl upd_same) (q.kpu c hl))⟩⟩
  · cases e
    obtain ⟨v, e1, r⟩ := rl_one rl
    obtain ⟨p, xs, e2, h1, q⟩ := repB_tup r
    subst e1 e2
    exact ⟨p, xs, rfl, .inr ⟨h1.sq, w _ _ KpS.refl c.st (rep_tup h1 q)⟩⟩
  · cases e
/-! all, any, sum -/
def boolsD : List D → Option (List Bool)
  | [] => some []
  | .bl b :: ds => (boolsD ds).map (b :: ·)
  | _ => none
def intsD : List D → Option (List Int)
  | [] => some []
  | .int b :: ds => (intsD ds).map (b :: ·)
  | _ => none
theorem bools_rep {K : PySem.W.Frag} {aS : Addr} {H : Hp} {A : AS} : ∀ {ds : List D} {bs : List Bool} {vs : List V}, boolsD ds = some bs → RepL K aS H A ds vs → vs = bs.map V.bl
  | [], bs, vs, h, r => by
    rw [RepL] at r
    cases h
    exact r
  | d :: ds, bs, vs, h, r => by
    rw [RepL] at r
    obtain ⟨v, vr, e, r1, q⟩ := r
    cases d with
    | bl b =>
      rw [boolsD] at h
      cases hb : boolsD ds with
      | none => rw [hb] at h; cases h
      | some cs =>
        rw [hb] at h
        cases h
        simp only [Rep] at r1
        rw [e, r1, bools_rep hb q]
        rfl
    | _ => cases h
theorem ints_rep {K : PySem.W.Frag} {aS : Addr} {H : Hp} {A : AS} : ∀ {ds : List D} {bs : List Int} {vs : List V}, intsD ds = some bs → RepL K aS H A ds vs → vs = bs.map V.int
  | [], bs, vs, h, r => by
    rw [RepL] at r
    cases h
    exact r
  | d :: ds, bs, vs, h, r => by
    rw [RepL] at r
    obtain ⟨v, vr, e, r1, q⟩ := r
    cases d with
    | int b =>
      rw [intsD] at h
      cases hb : intsD ds with
      | none => rw [hb] at h; cases h
      | some cs =>
        rw [hb] at h
        cases h
        simp only [Rep] at r1
        rw [e, r1, ints_rep hb q]
        rfl
    | _ => cases h
def dAll : List D → Option D
  | [.lst xs] => (boolsD xs).map fun bs => .bl (bs.all id)
  | _ => none
def dAny : List D → Option D
  | [.lst xs] => (boolsD xs).map fun bs => .bl (bs.any id)
  | _ => none
def dSum : List D → Option D
  | [.lst xs] => (intsD xs).map fun bs => .int bs.sum
  | _ => none
theorem cd_all (hc : X.calm = true) : CallD X (.builtin "all") dAll := by
  refine ⟨_, cr_all hc, fun aS H A n ds d vs Q c rl e w => ?_⟩
  unfold dAll at e
  split at e
  · rename_i xs
    cases hb : boolsD xs with
    | none => rw [hb] at e; cases e
    | some bs =>
      rw [hb] at e
      cases e
      obtain ⟨v, e1, r⟩ := rl_one rl
      obtain ⟨p, us, e2, _, h1, q⟩ := repB_lst r
      subst e1 e2
      rw [bools_rep hb q] at h1
      exact ⟨p, bs, rfl, SqL.of h1, w _ _ KpS.refl c.st rep_bl⟩
  · cases e
theorem cd_any (hc : X.calm = true) : CallD X (.builtin "any") dAny := by
  refine ⟨_, cr_any hc, fun aS H A n ds d vs Q c rl e w => ?_⟩
  unfold dAny at e
  split at e
  · rename_i xs
    cases hb : boolsD xs with
    | none => rw [hb] at e; cases e
    | some bs =>
      rw [hb] at e
      cases e
      obtain ⟨v, e1, r⟩ := rl_one rl
      obtain ⟨p, us, e2, _, h1, q⟩ := repB_lst r
      subst e1 e2
      rw [bools_rep hb q] at h1
      exact ⟨p, bs, rfl, SqL.of h1, w _ _ KpS.refl c.st rep_bl⟩
  · cases e
theorem cd_sum (hc : X.calm = true) : CallD X (.builtin "sum") dSum := by
  refine ⟨_, cr_sum hc, fun aS H A n ds d vs Q c rl e w => ?_⟩
  unfold dSum at e
  split at e
  · rename_i xs
    cases hb : intsD xs with
    | none => rw [hb] at e; cases e
    | some bs =>
      rw [hb] at e
      cases e
      obtain ⟨v, e1, r⟩ := rl_one rl
      obtain ⟨p, us, e2, _, h1, q⟩ := repB_lst r
      subst e1 e2
      rw [ints_rep hb q] at h1
      exact ⟨p, bs, rfl, SqL.of h1, w _ _ KpS.refl c.st rep_int⟩
  · cases e
/-! isinstance -/
def tyD : D → Option String
  | .non => some "NoneType"
  | .bl _ => some "bool"
  | .int _ => some "int"
  | .str _ => some "str"
  | .lst _ => some "list"
  | .tup _ => some "tuple"
  | .dic _ => some "dict"
  | _ => none
def isTy (a b : String) : Bool := a == b || (a == "bool" && b == "int")
def isB (b : String) : Bool := b == "int" || b == "bool" || b == "str" || b == "list" || b == "tuple" || b == "dict"
theorem kit_tab : ∀ a ∈ ["NoneType", "bool", "int", "str", "list", "tuple", "dict"], ∀ b ∈ ["int", "bool", "str", "list", "tuple", "dict"], kitB a b = some (isTy a b) := by decide +kernel
theorem kit_of_ty {K : PySem.W.Frag} {a b : String} (ha : a ∈ ["NoneType", "bool", "int", "str", "list", "tuple", "dict"]) (hb : isB b = true) : PySem.W.kitOne K (.type a) (.type b) = some (isTy a b) := by
  refine kit_ty (kit_tab a ha b ?_)
  simpa [isB, Bool.or_eq_true, or_assoc] using hb
theorem tyX_of {K : PySem.W.Frag} {aS : Addr} {H : Hp} {A : AS} {d : D} {v : V} {a : String} (h : tyD d = some a) (r : RepB K aS H A d v) : TyX K H v (.type a) ∧ a ∈ ["NoneType", "bool", "int", "str", "list", "tuple", "dict"] := by
  cases d <;> simp only [tyD, Option.some.injEq, reduceCtorEq] at h <;> subst h
  · rw [repB_non r]; exact ⟨.base .non, by simp⟩
  · rw [repB_bl r]; exact ⟨.base (.bl _), by simp⟩
  · rw [repB_int r]; exact ⟨.base (.int _), by simp⟩
  · rw [repB_str r]; exact ⟨.base (.str _), by simp⟩
  · obtain ⟨p, xs, e, h1, q⟩ := repB_tup r
    subst e
    refine ⟨?_, by simp⟩
    rcases h1 with h1 | ⟨o, its, n, hk, hc, _⟩
    · exact .base (.tup h1)
    · exact .kTuple hk hc
  · obtain ⟨p, xs, e, _, h1, q⟩ := repB_lst r
    subst e
    exact ⟨.base (.lst h1), by simp⟩
  · obtain ⟨p, xs, e, _, h1, q⟩ := repB_dic r
    subst e
    refine ⟨?_, by simp⟩
    rcases h1 with h1 | ⟨o, h1⟩
    · exact .base (.dK h1)
    · exact .fDict h1
def tysD : List D → Option (List String)
  | [] => some []
  | .raw (.ty T) :: ds => if isB T = true then (tysD ds).map (T :: ·) else none
  | _ => none
theorem tys_rep {K : PySem.W.Frag} {aS : Addr} {H : Hp} {A : AS} {a : String} (ha : a ∈ ["NoneType", "bool", "int", "str", "list", "tuple", "dict"]) : ∀ {ds : List D} {bs : List String} {vs : List V}, tysD ds = some bs → RepL K aS H A ds vs →
    Paired ClsV vs (bs.map Value.type) ∧ PySem.W.kitAny K (.type a) (bs.map Value.type) = some (bs.any (isTy a))
  | [], bs, vs, h, r => by
    rw [RepL] at r
    subst r
    cases h
    exact ⟨.nil, rfl⟩
  | d :: ds, bs, vs, h, r => by
    rw [RepL] at r
    obtain ⟨v, vr, e, r1, q⟩ := r
    subst e
    unfold tysD at h
    split at h
    · rename_i hz; cases hz
    · rename_i T ds' heq
      cases heq
      split at h
      · rename_i hT
        cases hb : tysD ds with
        | none => rw [hb] at h; cases h
        | some cs =>
          rw [hb] at h
          cases h
          obtain ⟨i1, i2⟩ := tys_rep ha hb q
          simp only [Rep] at r1
          subst r1
          refine ⟨.cons (.ty T) i1, ?_⟩
          rw [List.map_cons, List.any_cons]
          refine kitAny_cons (kit_of_ty ha hT) (fun z => ?_) (fun z => ?_)
          · rw [z, Bool.false_or]; exact i2
          · rw [z]; rfl
      · cases h
    · cases h
def dIsi : List D → Option D
  | [x, .raw (.ty T)] => if isB T = true then (tyD x).map fun a => .bl (isTy a T) else none
  | [x, .tup ts] => match tyD x, tysD ts with
    | some a, some bs => some (.bl (bs.any (isTy a)))
    | _, _ => none
  | _ => none
theorem cd_isi : CallD X (.builtin "isinstance") dIsi := by
  refine ⟨_, CallR.or call_isi (CallR.or call_isiT call_isiK), fun aS H A n ds d vs Q c rl e w => ?_⟩
  unfold dIsi at e
  split at e
  · rename_i x T
    split at e
    · rename_i hT
      cases ht : tyD x with
      | none => rw [ht] at e; cases e
      | some a =>
        rw [ht] at e
        cases e
        obtain ⟨v, u, e1, r1, r2⟩ := rl_two rl
        have e2 := repB_raw r2
        subst e1 e2
        obtain ⟨t1, t2⟩ := tyX_of ht r1
        exact .inl ⟨v, .ty T, .type a, .type T, _, rfl, .ty T, t1, kit_of_ty t2 hT, w _ _ KpS.refl c.st rep_bl⟩
    · cases e
  · rename_i x ts
    split at e
    · rename_i a bs ht hts
      cases e
      obtain ⟨v, u, e1, r1, r2⟩ := rl_two rl
      obtain ⟨p, us, e2, h1, q⟩ := repB_tup r2
      subst e1 e2
      obtain ⟨t1, t2⟩ := tyX_of ht r1
      obtain ⟨i1, i2⟩ := tys_rep t2 hts q
      rcases h1 with h1 | ⟨⟨oc, od, odt, osl⟩, its, n, hk, hc, hdt, _, hv⟩
      · exact .inr (.inl ⟨v, p, us, .type a, bs.map Value.type, _, rfl, h1, i1, t1, i2, w _ _ KpS.refl c.st rep_bl⟩)
      · cases hc
        cases hdt
        have ez := ClsV.all i1 hv
        refine .inr (.inr ⟨v, p, od, bs.map Value.type, n, osl, .type a, _, rfl, ?_, t1, i2, w _ _ KpS.refl c.st rep_bl⟩)
        rw [hk, ← ez, Array.toArray_toList]
    · cases e
  · cases e
end
end DL
namespace DL
open PySem PySem.Spec PyProof.Rows L2
variable [TabC]
section
variable {K : PySem.W.Frag} {aS a : Addr} {H H' H'' H0 H1 : Hp} {A A' : AS} {A0 : A0T} {O O' : List Nat} {σ : L2.St} {s : Ev} {n n' i : Nat} {d : D} {v : V}
theorem set_other {α : Type} {l : List α} {i j : Nat} {x : α} (h : j ≠ i) : (l.set i x)[j]? = l[j]? := List.getElem?_set_ne (Ne.symm h)
theorem AV.set {A0 : AS} {x : Option V} (hi : i ∉ O) : AV aS A0 O (σ.set i x) = AV aS A0 O σ := by
  funext b
  unfold AV
  refine propext ⟨fun h => ?_, fun h => ?_⟩
  · rcases h with h | h | ⟨j, hj, e⟩
    · exact .inl h
    · exact .inr (.inl h)
    · rw [set_other (show j ≠ i from fun z => hi (z ▸ hj))] at e
      exact .inr (.inr ⟨j, hj, e⟩)
  · rcases h with h | h | ⟨j, hj, e⟩
    · exact .inl h
    · exact .inr (.inl h)
    · refine .inr (.inr ⟨j, hj, ?_⟩)
      rw [set_other (show j ≠ i from fun z => hi (z ▸ hj))]
      exact e
/-- a slot that owns nothing is stored -/
theorem SR.set (S : SR K aS O A0 H0 σ H s n) (hi : i ∉ O) (r : Rep K aS H (AV aS A0 O σ) d v) : SR K aS O A0 H0 (σ.set i (some v)) H (s.set i (some d)) n where
  len := by rw [List.length_set, List.length_set]; exact S.len
  sh := fun j d' e hj => by
    rw [AV.set hi]
    by_cases hji : j = i
    · subst hji
      have hl : j < s.length := by
        have := (List.getElem?_eq_some_iff.mp e).1
        rwa [List.length_set] at this
      rw [List.getElem?_set_self hl] at e
      cases e
      exact ⟨v, List.getElem?_set_self (by rw [S.len]; exact hl), r⟩
    · rw [set_other hji] at e
      rw [set_other hji]
      exact S.sh j d' e hj
  ow := fun j hj => by
    have hji : j ≠ i := fun z => hi (z ▸ hj)
    rw [AV.set hi, set_other hji, set_other hji]
    exact S.ow j hj
  ds := fun j k b hj hk e1 e2 => by
    rw [set_other (show j ≠ i from fun z => hi (z ▸ hj))] at e1
    rw [set_other (show k ≠ i from fun z => hi (z ▸ hk))] at e2
    exact S.ds j k b hj hk e1 e2
  fr := S.fr
  st := S.st
  av := S.av
  pn := fun h a e => by
    rw [set_other (show 0 ≠ i from fun z => hi (z ▸ h))]
    exact S.pn h a e
/-- a slot that owns nothing is forgotten -/
theorem SR.hide (S : SR K aS O A0 H0 σ H s n) (hi : i ∉ O) : SR K aS O A0 H0 σ H (s.set i none) n where
  len := by rw [List.length_set]; exact S.len
  sh := fun j d' e hj => by
    by_cases hji : j = i
    · subst hji
      have hl : j < s.length := by
        have := (List.getElem?_eq_some_iff.mp e).1
        rwa [List.length_set] at this
      rw [List.getElem?_set_self hl] at e
      cases e
    · rw [set_other hji] at e
      exact S.sh j d' e hj
  ow := fun j hj => by
    have hji : j ≠ i := fun z => hi (z ▸ hj)
    rw [set_other hji]
    exact S.ow j hj
  ds := S.ds
  fr := S.fr
  st := S.st
  av := S.av
  pn := S.pn
/-- slots give up what they own -/
theorem SR.rel (S : SR K aS O A0 H0 σ H s n) (h : ∀ j, j ∈ O' → j ∈ O) : SR K aS O' A0 H0 σ H s n := by
  have hle : ∀ b, AV aS A0 O' σ b → AV aS A0 O σ b := fun b z => by
    rcases z with z | z | ⟨j, hj, e⟩
    · exact .inl z
    · exact .inr (.inl z)
    · exact .inr (.inr ⟨j, h j hj, e⟩)
  refine ⟨S.len, fun j d' e hj => ?_, fun j hj => ?_, fun j k b hj hk => S.ds j k b (h j hj) (h k hk), S.fr, S.st, S.av, fun z => S.pn (h 0 z)⟩
  · by_cases ho : j ∈ O
    · obtain ⟨d'', b, e1, e2, e3, e4, e5, e6⟩ := S.ow j ho
      rw [e] at e1
      cases e1
      refine ⟨_, e2, (e6.mono hle).rep0 fun z => ?_⟩
      rcases z with z | z | ⟨k, hk, e⟩
      · exact e4 z
      · exact e5 z
      · exact hj (S.ds j k b ho (h k hk) e2 e ▸ hk)
    · obtain ⟨v, e1, r⟩ := S.sh j d' e ho
      exact ⟨v, e1, Rep.mono (sub_le hle) _ _ r⟩
  · obtain ⟨d'', b, e1, e2, e3, e4, e5, e6⟩ := S.ow j (h j hj)
    exact ⟨d'', b, e1, e2, e3, e4, e5, e6.mono hle⟩
/-- a new object is owned by a slot -/
theorem SR.own (S : SR K aS O A0 H0 σ H s n) (hi : i ∉ O) (hi0 : i ≠ 0) (hl : i < s.length) (ha : H a = none) (k : KpS aS H H') (t : StA K aS H' n') (o : Own K aS H' (fun b => AV aS A0 O σ b ∨ b = a) a d) : SR K aS (i :: O) A0 H0 (σ.set i (some (.ref a))) H' (s.set i (some d)) n' := by
  have hlσ : i < σ.length := by rw [S.len]; exact hl
  have eA : AV aS A0 (i :: O) (σ.set i (some (.ref a))) = fun b => AV aS A0 O σ b ∨ b = a := by
    funext b
    refine propext ⟨fun z => ?_, fun z => ?_⟩
    · rcases z with z | z | ⟨j, hj, e⟩
      · exact .inl (.inl z)
      · exact .inl (.inr (.inl z))
      · by_cases hji : j = i
        · subst hji
          rw [List.getElem?_set_self hlσ] at e
          cases e
          exact .inr rfl
        · rw [set_other hji] at e
          exact .inl (.inr (.inr ⟨j, (List.mem_cons.mp hj).resolve_left hji, e⟩))
    · rcases z with (z | z | ⟨j, hj, e⟩) | z
      · exact .inl z
      · exact .inr (.inl z)
      · refine .inr (.inr ⟨j, List.mem_cons_of_mem _ hj, ?_⟩)
        rw [set_other (show j ≠ i from fun z => hi (z ▸ hj))]
        exact e
      · refine .inr (.inr ⟨i, List.mem_cons_self, ?_⟩)
        rw [z]
        exact List.getElem?_set_self hlσ
  have hs := S.st.lst
  have sub : Sub K H H' (AV aS A0 O σ) (fun b => AV aS A0 O σ b ∨ b = a) := by
    obtain ⟨ys, hs⟩ := hs
    have ne : ∀ b, ¬ AV aS A0 O σ b → b ≠ aS := fun b h e => h (.inr (.inl e))
    refine ⟨fun b xs h q => ⟨fun z => z.elim h (ne_of_none q ha), k _ _ q (ne b h)⟩, fun b xs q => TpA.kp k hs q, fun b ys h q => ⟨fun z => z.elim h ?_, Rd.kp k (ne b h) q⟩, fun b C dx ys h q => ⟨fun z => z.elim h (ne_of_none q ha), k _ _ q (ne b h)⟩⟩
    rcases q with q | ⟨_, q⟩
    · exact ne_of_none q ha
    · exact ne_of_none q ha
  have own_at : ∀ j, j ∈ O → ∃ d' b, s[j]? = some (some d') ∧ σ[j]? = some (some (.ref b)) ∧ H0 b = none ∧ ¬ A0 b ∧ b ≠ aS ∧ b ≠ a ∧ Own K aS H' (fun b => AV aS A0 O σ b ∨ b = a) b d' := fun j hj => by
    obtain ⟨d', b, e1, e2, e3, e4, e5, e6⟩ := S.ow j hj
    refine ⟨d', b, e1, e2, e3, e4, e5, fun z => S.new ha (.inr (.inr ⟨j, hj, z ▸ e2⟩)), ?_⟩
    cases d' with
    | lst ds => obtain ⟨xs, e, q⟩ := e6; exact ⟨xs, k _ _ e e5, RepL.mono sub _ _ q⟩
    | dic ds => obtain ⟨xs, e, q⟩ := e6; exact ⟨xs, k _ _ e e5, RepK.mono sub _ _ q⟩
    | obj C ds => obtain ⟨dx, xs, e, q⟩ := e6; exact ⟨dx, xs, k _ _ e e5, RepF.mono sub _ _ q⟩
    | _ => exact e6.elim
  refine ⟨by rw [List.length_set, List.length_set]; exact S.len, fun j d' e hj => ?_, fun j hj => ?_, fun j l b hj hk e1 e2 => ?_, S.fr.trans k, t, (S.step k t).av, fun z b e => by
    rw [set_other (Ne.symm hi0)]
    exact S.pn ((List.mem_cons.mp z).resolve_left (Ne.symm hi0)) b e⟩
  · rw [eA]
    have hji : j ≠ i := fun z => hj (z ▸ List.mem_cons_self)
    rw [set_other hji] at e ⊢
    obtain ⟨v, e1, r⟩ := S.sh j d' e (fun z => hj (List.mem_cons_of_mem _ z))
    exact ⟨v, e1, Rep.mono sub _ _ r⟩
  · rw [eA]
    by_cases hji : j = i
    · subst hji
      rw [List.getElem?_set_self hl, List.getElem?_set_self hlσ]
      refine ⟨d, a, rfl, rfl, ?_, fun z => S.new ha (.inl z), fun z => S.new ha (.inr (.inl z)), o⟩
      cases e : H0 a with
      | none => rfl
      | some u =>
        exact (KpS.gone S.fr ha e (fun z => S.new ha (.inr (.inl z)))).elim
    · rw [set_other hji, set_other hji]
      obtain ⟨d', b, e1, e2, e3, e4, e5, e6, e7⟩ := own_at j ((List.mem_cons.mp hj).resolve_left hji)
      exact ⟨d', b, e1, e2, e3, e4, e5, e7⟩
  · by_cases hji : j = i
    · by_cases hki : l = i
      · rw [hji, hki]
      · rw [hji, List.getElem?_set_self hlσ] at e1
        rw [set_other hki] at e2
        cases e1
        exact (S.new ha (.inr (.inr ⟨l, (List.mem_cons.mp hk).resolve_left hki, e2⟩))).elim
    · by_cases hki : l = i
      · rw [hki, List.getElem?_set_self hlσ] at e2
        rw [set_other hji] at e1
        cases e2
        exact (S.new ha (.inr (.inr ⟨j, (List.mem_cons.mp hj).resolve_left hji, e1⟩))).elim
      · rw [set_other hji] at e1
        rw [set_other hki] at e2
        exact S.ds j l b ((List.mem_cons.mp hj).resolve_left hji) ((List.mem_cons.mp hk).resolve_left hki) e1 e2
/-- what a slot owns is changed -/
theorem SR.mut {o o' : HO} (S : SR K aS O A0 H0 σ H s n) (hi : i ∈ O) (e : σ[i]? = some (some (.ref a))) (ho : H a = some o) (hk : ∀ xs, o ≠ .tup xs) (hf : ∀ ob u, o ≠ .frz ob u)
    (new : Own K aS (upd H a o') (AV aS A0 O σ) a d) : SR K aS O A0 H0 σ (upd H a o') (s.set i (some d)) n := by
  obtain ⟨d0, a', e1, e2, e3, e4, e5, e6⟩ := S.ow i hi
  rw [e] at e2
  cases e2
  have hl : i < s.length := (List.getElem?_eq_some_iff.mp e1).1
  have hA : AV aS A0 O σ a := .inr (.inr ⟨i, hi, e⟩)
  have up : ∀ b u, H b = some u → b ≠ a → upd H a o' b = some u := fun b u q z => by rw [upd_ne z]; exact q
  have sub : Sub K H (upd H a o') (AV aS A0 O σ) (AV aS A0 O σ) := by
    have ne : ∀ b, ¬ AV aS A0 O σ b → b ≠ a := fun b h z => h (z ▸ hA)
    refine ⟨fun b xs h q => ⟨h, up _ _ q (ne b h)⟩, fun b xs q => q.elim (fun q => .inl (up _ _ q fun z => ?_)) .inr, fun b ys h q => ⟨h, ?_⟩, fun b C dx ys h q => ⟨h, up _ _ q (ne b h)⟩⟩
    · rw [z, ho] at q
      cases q
      exact hk _ rfl
    · rcases q with q | ⟨z, q⟩
      · exact .inl (up _ _ q (ne b h))
      · exact .inr ⟨z, up _ _ q (ne b h)⟩
  refine ⟨by rw [List.length_set]; exact S.len, fun j d' ej hj => ?_, fun j hj => ?_, S.ds, fun b u q z => (S.fr b u q z).trans fun v e' => .of (up _ _ e' (fun z => by rw [z, e3] at q; cases q)), ?_, fun b hb => ?_, S.pn⟩
  · have hji : j ≠ i := fun z => hj (z ▸ hi)
    rw [set_other hji] at ej
    obtain ⟨v, q1, r⟩ := S.sh j d' ej hj
    exact ⟨v, q1, Rep.mono sub _ _ r⟩
  · by_cases hji : j = i
    · subst hji
      rw [List.getElem?_set_self hl]
      exact ⟨d, a, rfl, e, e3, e4, e5, new⟩
    · rw [set_other hji]
      obtain ⟨d', b, q1, q2, q3, q4, q5, q6⟩ := S.ow j hj
      have hb : b ≠ a := fun z => hji (S.ds j i a hj hi (z ▸ q2) e)
      refine ⟨d', b, q1, q2, q3, q4, q5, ?_⟩
      cases d' with
      | lst ds => obtain ⟨xs, e, q⟩ := q6; exact ⟨xs, up _ _ e hb, RepL.mono sub _ _ q⟩
      | dic ds => obtain ⟨xs, e, q⟩ := q6; exact ⟨xs, up _ _ e hb, RepK.mono sub _ _ q⟩
      | obj C ds => obtain ⟨dx, xs, e, q⟩ := q6; exact ⟨dx, xs, up _ _ e hb, RepF.mono sub _ _ q⟩
      | _ => exact q6.elim
  · obtain ⟨a0, cs, i', g, m, d', z1, z2, ⟨ob, z3⟩, z4, z5, z6, z7, z8, z9, zt⟩ := S.st
    refine ⟨a0, cs, i', g, m, d', up _ _ z1 (Ne.symm e5), z2, ⟨ob, up _ _ z3 fun z => ?_⟩, z4, z5, z6, z7, z8, z9, tabs_poke zt ho (e6.plain ho).1 (e6.plain ho).2 (new.plain upd_same).1⟩
    rw [z, ho] at z3
    cases z3
    exact hf _ _ rfl
  · by_cases z : b = a
    · rw [z, upd_same]
      exact ⟨_, rfl⟩
    · obtain ⟨u, q⟩ := S.av b hb
      exact ⟨u, up _ _ q z⟩
/-- the heap without what slots own: what a loop's body starts from -/
noncomputable def bare (O : List Nat) (σ : L2.St) (H : Hp) : Hp := fun b => @ite _ (∃ i, i ∈ O ∧ σ[i]? = some (some (.ref b))) (Classical.propDecidable _) none (H b)
theorem bare_own {b : Addr} (h : ∃ i, i ∈ O ∧ σ[i]? = some (some (.ref b))) : bare O σ H b = none := by
  unfold bare
  rw [if_pos h]
theorem bare_not {b : Addr} (h : ¬ ∃ i, i ∈ O ∧ σ[i]? = some (some (.ref b))) : bare O σ H b = H b := by
  unfold bare
  rw [if_neg h]
theorem bare_some {b : Addr} {u : HO} (h : bare O σ H b = some u) : H b = some u := by
  by_cases z : ∃ i, i ∈ O ∧ σ[i]? = some (some (.ref b))
  · rw [bare_own z] at h; cases h
  · rw [bare_not z] at h; exact h
theorem SR.base (S : SR K aS O A0 H0 σ H s n) : SR K aS O A0 (bare O σ H) σ H s n :=
  ⟨S.len, S.sh, fun j hj => let ⟨d, b, e1, e2, e3, e4, e5, e6⟩ := S.ow j hj; ⟨d, b, e1, e2, bare_own ⟨j, hj, e2⟩, e4, e5, e6⟩, S.ds, fun b u q _ => .of (bare_some q), S.st, S.av, S.pn⟩
theorem SR.le (S : SR K aS O A0 H0 σ H s n) : KpS aS H0 (bare O σ H) := fun b u q z => by
  rw [bare_not]
  · exact S.fr b u q z
  · rintro ⟨j, hj, e⟩
    obtain ⟨d, b', e1, e2, e3, _⟩ := S.ow j hj
    rw [e] at e2
    cases e2
    rw [q] at e3
    cases e3
/-- from a later base back to the elder one -/
theorem SR.back (S : SR K aS O A0 H1 σ H s n) (h : KpS aS H0 H1) : SR K aS O A0 H0 σ H s n :=
  ⟨S.len, S.sh, fun j hj => let ⟨d, b, e1, e2, e3, e4, e5, e6⟩ := S.ow j hj
    ⟨d, b, e1, e2, Option.eq_none_iff_forall_ne_some.mpr fun u z => (KpS.gone h e3 z e5), e4, e5, e6⟩, S.ds, h.trans S.fr, S.st, S.av, S.pn⟩
end
end DL
namespace DL
open PySem PySem.Spec PyProof.Rows L2
variable [TabC]
/-! ### statements -/
def sNil : SM := fun _ de s n => de.nx s n
def sSeq (m r : SM) : SM := fun xq de s n => m xq { de with nx := fun s' n' => r xq de s' n' } s n
def sRet (m : EM D) : SM := fun xq de s n => m xq s n de.rt
def sRetN : SM := fun _ de _ n => de.rt .non n
def sSet (i : Nat) (m : EM D) : SM := fun xq de s n => m xq s n fun d n' => de.nx (s.set i (some d)) n'
def sIf (t : EM Bool) (a b : SM) : SM := fun xq de s n => t xq s n fun c n' => if c = true then a xq de s n' else b xq de s n'
def sDrop (m : EM D) : SM := fun xq de s n => m xq s n fun _ n' => de.nx s n'
def sNever : SM := fun _ _ _ _ => False
def sPass : SM := fun _ de s n => de.nx s n
def sBreak : SM := fun _ de s n => de.bk s n
def sCont : SM := fun _ de s n => de.ct s n
section
variable {X : Cx} {E : XK} {O O' O'' OL : List Nat} {e : Expr} {st : Stmt} {rest : List Stmt} {m : EM D} {ml : EM (List D)} {mt : EM Bool} {ms mr : SM} {pos : Pos} {i : Nat}
theorem vss_nil : VSs X E O O OL [] sNil := ⟨_, pss_nil, fun aS A0 H0 σ H s n xq de De S L k h => k.nx σ H s n S h⟩
theorem vss_cons (h1 : VS X E O O' OL st ms) (h2 : VSs X E O' O'' OL rest mr) : VSs X E O O'' OL (st :: rest) (sSeq ms mr) := by
  obtain ⟨t, p, f⟩ := h1
  obtain ⟨u, p2, f2⟩ := h2
  exact ⟨_, pss_cons p p2, fun aS A0 H0 σ H s n xq de De S L k h => f aS A0 H0 σ H s n xq { de with nx := fun s' n' => mr xq de s' n' } _ S L ⟨fun σ' H' s' n' S' q => f2 aS A0 H0 σ' H' s' n' xq de De S' L k q, k.rt, k.bk, k.ct⟩ h⟩
theorem vss_one (h1 : VS X E O O' OL st ms) : VSs X E O O' OL [st] ms := by
  obtain ⟨t, p, f⟩ := h1
  exact ⟨_, pss_one p, f⟩
/-- what is owned behind may be given up -/
theorem VSs.weak (h : VSs X E O O' OL rest ms) (hw : ∀ j, j ∈ O'' → j ∈ O') : VSs X E O O'' OL rest ms := by
  obtain ⟨t, p, f⟩ := h
  exact ⟨t, p, fun aS A0 H0 σ H s n xq de De S L k q => f aS A0 H0 σ H s n xq de De S L ⟨fun σ' H' s' n' S' q => k.nx σ' H' s' n' (S'.rel hw) q, k.rt, k.bk, k.ct⟩ q⟩
theorem VSs.rel (h : VSs X E O O' OL rest ms) (hw : ∀ j, j ∈ O → j ∈ O'') : VSs X E O'' O' OL rest ms := by
  obtain ⟨t, p, f⟩ := h
  exact ⟨t, p, fun aS A0 H0 σ H s n xq de De S L k q => f aS A0 H0 σ H s n xq de De (S.rel hw) L k q⟩
theorem VS.rel (h : VS X E O O' OL st ms) (hw : ∀ j, j ∈ O → j ∈ O'') : VS X E O'' O' OL st ms := by
  obtain ⟨t, p, f⟩ := h
  exact ⟨t, p, fun aS A0 H0 σ H s n xq de De S L k q => f aS A0 H0 σ H s n xq de De (S.rel hw) L k q⟩
theorem av_nil {aS : Addr} {A0 : AS} {O : List Nat} {σ : L2.St} : ∀ a, AV aS A0 [] [] a → AV aS A0 O σ a := fun a h => by
  rcases h with h | h | ⟨j, hj, _⟩
  · exact .inl h
  · exact .inr (.inl h)
  · cases hj
theorem vs_ret (h : VE X E O e m) : VS X E O O' OL (.Return (some e) pos) (sRet m) := by
  obtain ⟨mn, t, p, f⟩ := h
  refine ⟨_, ps_ret p, fun aS A0 H0 σ H s n xq de De S L k h => f aS A0 H0 σ H s n xq _ S L (mn _ _ _ _ _ (fun d n' q v H' kp st r => k.rt v H' d n' (S.fr.trans kp) st (Rep.mono (sub_le av_nil) _ _ r) q) h)⟩
/-- return of a name that owns -/
theorem vs_retO {x : Str} {p' : Pos} (hi : i ∈ O) (hN : X.N[i]? = some x) (hv : Vis X.env.scope x) (hd : (x == ("__debug__" : Str)) = false := by decide) (hcd : (x == ("__classdict__" : Str)) = false := by decide) : VS X E O O' OL (.Return (some (.Name x p')) pos) (sRet (eVar i)) := by
  refine ⟨_, ps_ret (pe_var hN hv hd hcd), fun aS A0 H0 σ H s n xq de De S L k h => ?_⟩
  obtain ⟨d, e, q⟩ := h
  have S' := S.rel (O' := []) (fun _ z => nomatch z)
  obtain ⟨v, ev, r⟩ := S'.sh i d e (fun z => nomatch z)
  exact ⟨v, ev, k.rt v H d n S.fr S.st (Rep.mono (sub_le av_nil) _ _ r) q⟩
theorem vs_retN : VS X E O O' OL (.Return none pos) sRetN := ⟨_, ps_retN, fun aS A0 H0 σ H s n xq de De S L k h => k.rt .non H .non n S.fr S.st rep_non h⟩
theorem vs_if {c : Expr} {a b : List Stmt} {ma mb : SM} (hc : VT X E O c mt) (ha : VSs X E O O' OL a ma) (hb : VSs X E O O' OL b mb) : VS X E O O' OL (.If c a b pos) (sIf mt ma mb) := by
  obtain ⟨mnc, tc, pc, fc⟩ := hc
  obtain ⟨ta, pa, fa⟩ := ha
  obtain ⟨tb, pb, fb⟩ := hb
  refine ⟨_, ps_if pc pa pb, fun aS A0 H0 σ H s n xq de De S L k h => fc aS A0 H0 σ H s n xq _ S L (mnc _ _ _ _ _ (fun c n1 q H1 k1 st1 => ?_) h)⟩
  cases c with
  | true => exact fa aS A0 H0 σ H1 s n1 xq de De (S.step k1 st1) L k q
  | false => exact fb aS A0 H0 σ H1 s n1 xq de De (S.step k1 st1) L k q
theorem vs_never : VS X E O O' OL st sNever := ⟨_, ps_never, fun aS A0 H0 σ H s n xq de De S L k h => h⟩
theorem vss_never : VSs X E O O' OL rest sNever := ⟨_, pss_never, fun aS A0 H0 σ H s n xq de De S L k h => h⟩
theorem vs_pass : VS X E O O OL (.Pass pos) sPass := ⟨_, ps_pass, fun aS A0 H0 σ H s n xq de De S L k h => k.nx σ H s n S h⟩
theorem vs_break (hw : ∀ j, j ∈ OL → j ∈ O) : VS X E O O' OL (.Break pos) sBreak := ⟨_, ps_break, fun aS A0 H0 σ H s n xq de De S L k h => k.bk σ H s n (S.rel hw) h⟩
theorem vs_cont (hw : ∀ j, j ∈ OL → j ∈ O) : VS X E O O' OL (.Continue pos) sCont := ⟨_, ps_continue, fun aS A0 H0 σ H s n xq de De S L k h => k.ct σ H s n (S.rel hw) h⟩
/-- name = e, the name owns nothing behind -/
theorem vs_set {x : Str} {p' : Pos} (hi : i ∉ O) (hnd : X.N.Nodup) (hN : X.N[i]? = some x) (hx : Loc X.env.scope x) (h : VE X E O e m) (hs : swapsWith e (some (.Name x p')) pos.line X.env = pure false := by rfl)
    (hf : X.fn x = true ∨ X.env.scope.names.lookup x = some .local := by first | exact .inl rfl | exact .inr rfl | assumption) : VS X E O O OL (.Assign [.Name x p'] e pos) (sSet i m) := by
  obtain ⟨mn, t, p, f⟩ := h
  refine ⟨_, ps_set hnd hN hx p hs hf, fun aS A0 H0 σ H s n xq de De S L k h => f aS A0 H0 σ H s n xq _ S L (mn _ _ _ _ _ (fun d n' q v H' kp st r => ?_) h)⟩
  exact k.nx _ H' _ n' ((S.step kp st).set hi r) q
/-- name = a new object: the name owns it -/
theorem vs_setF {x : Str} {p' : Pos} (hi : i ∉ O) (hi0 : i ≠ 0) (hnd : X.N.Nodup) (hN : X.N[i]? = some x) (hx : Loc X.env.scope x) (h : VF X E O e m) (hs : swapsWith e (some (.Name x p')) pos.line X.env = pure false := by rfl)
    (hf : X.fn x = true ∨ X.env.scope.names.lookup x = some .local := by first | exact .inl rfl | exact .inr rfl | assumption) : VS X E O (i :: O) OL (.Assign [.Name x p'] e pos) (fun xq de s n => i < s.length ∧ sSet i m xq de s n) := by
  obtain ⟨mn, t, p, f⟩ := h
  refine ⟨_, ps_set hnd hN hx p hs hf, fun aS A0 H0 σ H s n xq de De S L k h => f aS A0 H0 σ H s n xq _ S L (mn _ _ _ _ _ (fun d n' q a H' ha kp st o => ?_) h.2)⟩
  exact k.nx _ H' _ n' (S.own hi hi0 h.1 ha kp st o) q
theorem vs_expr (h : VE X E O e m) (hs : swapsWith e none pos.line X.env = pure false := by rfl) : VS X E O O OL (.Expr e pos) (sDrop m) := by
  obtain ⟨mn, t, p, f⟩ := h
  exact ⟨_, ps_expr p hs, fun aS A0 H0 σ H s n xq de De S L k h => f aS A0 H0 σ H s n xq _ S L (mn _ _ _ _ _ (fun d n' q v H' kp st r => k.nx _ H' _ n' (S.step kp st) q) h)⟩
/-! ### lists that are owned -/
def sApp (i : Nat) (m : EM D) : SM := fun xq de s n => ∃ ds, s[i]? = some (some (.lst ds)) ∧ m xq s n fun d n' => ds.length < LIM ∧ de.nx (s.set i (some (.lst (ds ++ [d])))) n'
def sExt (i : Nat) (m : EM D) : SM := fun xq de s n => ∃ ds, s[i]? = some (some (.lst ds)) ∧ m xq s n fun d n' => ∃ es, d = .lst es ∧ ds.length + es.length ≤ LIM ∧ de.nx (s.set i (some (.lst (ds ++ es)))) n'
def sIns (i : Nat) (m : EM (List D)) : SM := fun xq de s n => ∃ ds, s[i]? = some (some (.lst ds)) ∧ m xq s n fun l n' => ∃ (k : Nat) (d : D), l = [.int k, d] ∧ ds.length < LIM ∧ k ≤ LIM ∧ de.nx (s.set i (some (.lst (ds.take k ++ [d] ++ ds.drop k)))) n'
theorem own_lst {K : PySem.W.Frag} {aS : Addr} {H H0 : Hp} {A0 : A0T} {O : List Nat} {σ : L2.St} {s : Ev} {n i : Nat} {ds : List D} (S : SR K aS O A0 H0 σ H s n) (hi : i ∈ O) (e : s[i]? = some (some (.lst ds))) : ∃ a xs, σ[i]? = some (some (.ref a)) ∧ a ≠ aS ∧ H a = some (.lst xs) ∧ RepL K aS H (AV aS A0 O σ) ds xs := by
  obtain ⟨d, a, e1, e2, e3, e4, e5, e6⟩ := S.ow i hi
  rw [e] at e1
  cases e1
  obtain ⟨xs, h, r⟩ := e6
  exact ⟨a, xs, e2, e5, h, r⟩
theorem own_dic {K : PySem.W.Frag} {aS : Addr} {H H0 : Hp} {A0 : A0T} {O : List Nat} {σ : L2.St} {s : Ev} {n i : Nat} {ds : List (Key × D)} (S : SR K aS O A0 H0 σ H s n) (hi : i ∈ O) (e : s[i]? = some (some (.dic ds))) : ∃ a xs, σ[i]? = some (some (.ref a)) ∧ a ≠ aS ∧ H a = some (.dK xs) ∧ RepK K aS H (AV aS A0 O σ) ds xs := by
  obtain ⟨d, a, e1, e2, e3, e4, e5, e6⟩ := S.ow i hi
  rw [e] at e1
  cases e1
  obtain ⟨xs, h, r⟩ := e6
  exact ⟨a, xs, e2, e5, h, r⟩
/-- the list a slot owns is another one -/
theorem SR.mutL {K : PySem.W.Frag} {aS a : Addr} {H H0 : Hp} {A0 : A0T} {σ : L2.St} {s : Ev} {n : Nat} {ds : List D} {xs ys : List V} (S : SR K aS O A0 H0 σ H s n) (hi : i ∈ O) (e : σ[i]? = some (some (.ref a))) (ho : H a = some (.lst xs)) (r : RepL K aS H (AV aS A0 O σ) ds ys) :
    SR K aS O A0 H0 σ (upd H a (.lst ys)) (s.set i (some (.lst ds))) n := by
  refine S.mut hi e ho (fun _ z => nomatch z) (fun _ _ z => nomatch z) ⟨ys, upd_same, ?_⟩
  have hA : AV aS A0 O σ a := .inr (.inr ⟨i, hi, e⟩)
  have ne : ∀ b, ¬ AV aS A0 O σ b → b ≠ a := fun b h z => h (z ▸ hA)
  have up : ∀ b u, H b = some u → b ≠ a → upd H a (.lst ys) b = some u := fun b u q z => by rw [upd_ne z]; exact q
  refine RepL.mono ⟨fun b xs h q => ⟨h, up _ _ q (ne b h)⟩, fun b xs q => q.elim (fun q => .inl (up _ _ q fun z => ?_)) .inr, fun b ys h q => ⟨h, ?_⟩, fun b C dx ys h q => ⟨h, up _ _ q (ne b h)⟩⟩ _ _ r
  · have q : H b = _ := q
    rw [z, ho] at q
    cases q
  · rcases q with q | ⟨z, q⟩
    · exact .inl (up _ _ q (ne b h))
    · exact .inr ⟨z, up _ _ q (ne b h)⟩
theorem SR.mutD {K : PySem.W.Frag} {aS a : Addr} {H H0 : Hp} {A0 : A0T} {σ : L2.St} {s : Ev} {n : Nat} {ds : List (Key × D)} {xs ys : List (Key × V)} (S : SR K aS O A0 H0 σ H s n) (hi : i ∈ O) (e : σ[i]? = some (some (.ref a))) (ho : H a = some (.dK xs)) (r : RepK K aS H (AV aS A0 O σ) ds ys) :
    SR K aS O A0 H0 σ (upd H a (.dK ys)) (s.set i (some (.dic ds))) n := by
  refine S.mut hi e ho (fun _ z => nomatch z) (fun _ _ z => nomatch z) ⟨ys, upd_same, ?_⟩
  have hA : AV aS A0 O σ a := .inr (.inr ⟨i, hi, e⟩)
  have ne : ∀ b, ¬ AV aS A0 O σ b → b ≠ a := fun b h z => h (z ▸ hA)
  have up : ∀ b u, H b = some u → b ≠ a → upd H a (.dK ys) b = some u := fun b u q z => by rw [upd_ne z]; exact q
  refine RepK.mono ⟨fun b xs h q => ⟨h, up _ _ q (ne b h)⟩, fun b xs q => q.elim (fun q => .inl (up _ _ q fun z => ?_)) .inr, fun b ys h q => ⟨h, ?_⟩, fun b C dx ys h q => ⟨h, up _ _ q (ne b h)⟩⟩ _ _ r
  · have q : H b = _ := q
    rw [z, ho] at q
    cases q
  · rcases q with q | ⟨z, q⟩
    · exact .inl (up _ _ q (ne b h))
    · exact .inr ⟨z, up _ _ q (ne b h)⟩
theorem lim_lt {k : Nat} (h : k < LIM) : k < sizeLine := by unfold LIM at h; rw [sizeLine_eq]; omega
theorem vs_append {x : Str} {p' ap cp : Pos} (hi : i ∈ O) (hN : X.N[i]? = some x) (hv : Vis X.env.scope x) (h : VE X E O e m)
    (hpe : ∀ {to : TE} {t : TA}, PE X (.Name x p') to → PA X [e] t → PE X (.Call (.Attribute (.Name x p') "append" ap) [e] [] cp) (tBM X.K "list" rAppend to t) := by
      intro to t h1 h2; exact pe_bm PySem.F.plainAttrs_list PySem.F.slot_list_append PySem.F.type_list_append mt_append h1 h2)
    (hs : swapsWith (.Call (.Attribute (.Name x p') "append" ap) [e] [] cp) none pos.line X.env = pure false := by rfl) (hst : starEach [e] X.env = (false, eval e X.env) :: starEach [] X.env := by rfl)
    (hd : (x == ("__debug__" : Str)) = false := by decide) (hcd : (x == ("__classdict__" : Str)) = false := by decide) : VS X E O O OL (.Expr (.Call (.Attribute (.Name x p') "append" ap) [e] [] cp) pos) (sApp i m) := by
  obtain ⟨mn, t, p, f⟩ := h
  refine ⟨_, ps_expr (hpe (pe_var hN hv hd hcd) (pa_cons p pa_nil hst)) hs, fun aS A0 H0 σ H s n xq de De S L k h => ?_⟩
  obtain ⟨ds, es, h⟩ := h
  obtain ⟨a, xs, z1, z2, z3, z4⟩ := own_lst S hi es
  refine ⟨_, z1, .inl ⟨rfl, _, SqL.of z3⟩, f aS A0 H0 σ H s n xq _ S L (mn _ _ _ _ _ (fun d n' q v H' kp st r => ?_) h)⟩
  have z3' := kp _ _ z3 z2
  have z4' := z4.kp kp S.st AV.st
  exact ⟨a, xs, v, rfl, rfl, z3', by rw [z4.length]; exact lim_lt q.1, k.nx _ _ _ _ ((S.step kp st).mutL hi z1 z3' (z4'.app (RepL.cons r RepL.nil))) q.2⟩
theorem vs_extend {x : Str} {p' ap cp : Pos} (hi : i ∈ O) (hN : X.N[i]? = some x) (hv : Vis X.env.scope x) (h : VB X E O e m)
    (hpe : ∀ {to : TE} {t : TA}, PE X (.Name x p') to → PA X [e] t → PE X (.Call (.Attribute (.Name x p') "extend" ap) [e] [] cp) (tBM X.K "list" rExtend to t) := by
      intro to t h1 h2; exact pe_bm PySem.F.plainAttrs_list PySem.F.slot_list_extend PySem.F.type_list_extend mt_extend h1 h2)
    (hs : swapsWith (.Call (.Attribute (.Name x p') "extend" ap) [e] [] cp) none pos.line X.env = pure false := by rfl) (hst : starEach [e] X.env = (false, eval e X.env) :: starEach [] X.env := by rfl)
    (hd : (x == ("__debug__" : Str)) = false := by decide) (hcd : (x == ("__classdict__" : Str)) = false := by decide) : VS X E O O OL (.Expr (.Call (.Attribute (.Name x p') "extend" ap) [e] [] cp) pos) (sExt i m) := by
  obtain ⟨mn, t, p, f⟩ := h
  refine ⟨_, ps_expr (hpe (pe_var hN hv hd hcd) (pa_cons p pa_nil hst)) hs, fun aS A0 H0 σ H s n xq de De S L k h => ?_⟩
  obtain ⟨ds, es, h⟩ := h
  obtain ⟨a, xs, z1, z2, z3, z4⟩ := own_lst S hi es
  refine ⟨_, z1, .inl ⟨rfl, _, SqL.of z3⟩, f aS A0 H0 σ H s n xq _ S L (mn _ _ _ _ _ (fun d n' q v H' kp st r => ?_) h)⟩
  obtain ⟨es', ed, hl, q⟩ := q
  subst ed
  obtain ⟨b, ys, e2, y1, y2, y3⟩ := repB_lst r
  subst e2
  have z3' := kp _ _ z3 z2
  have z4' := z4.kp kp S.st AV.st
  exact ⟨a, b, xs, ys, rfl, rfl, z3', y2, by rw [z4.length, y3.length]; exact lim_line hl, k.nx _ _ _ _ ((S.step kp st).mutL hi z1 z3' (z4'.app y3)) q⟩
theorem vs_insert {x : Str} {e2 : Expr} {p' ap cp : Pos} (hi : i ∈ O) (hN : X.N[i]? = some x) (hv : Vis X.env.scope x) (h : VA Rep X E O [e, e2] ml)
    (hpe : ∀ {to : TE} {t : TA}, PE X (.Name x p') to → PA X [e, e2] t → ∃ r, PE X (.Call (.Attribute (.Name x p') "insert" ap) [e, e2] [] cp) (tBM X.K "list" r to t) ∧ ∀ v vs H Q, (∃ l xs i y, v = V.ref l ∧ vs = [V.int i, y] ∧ H l = some (HO.lst xs) ∧ xs.length < sizeLine ∧ 0 ≤ i ∧ i < 2 ^ 63 ∧ Q V.non (upd H l (HO.lst (List.take i.toNat xs ++ [y] ++ List.drop i.toNat xs)))) → r v vs H Q := by
      intro to t h1 h2; exact ⟨_, pe_bm PySem.F.plainAttrs_list PySem.F.slot_list_insert PySem.F.type_list_insert mt_insert h1 h2, fun _ _ _ _ h => h⟩)
    (hs : swapsWith (.Call (.Attribute (.Name x p') "insert" ap) [e, e2] [] cp) none pos.line X.env = pure false := by rfl)
    (hd : (x == ("__debug__" : Str)) = false := by decide) (hcd : (x == ("__classdict__" : Str)) = false := by decide) : VS X E O O OL (.Expr (.Call (.Attribute (.Name x p') "insert" ap) [e, e2] [] cp) pos) (sIns i ml) := by
  obtain ⟨mn, t, p, f⟩ := h
  obtain ⟨r, pe, hr⟩ := hpe (pe_var hN hv hd hcd) p
  refine ⟨_, ps_expr pe hs, fun aS A0 H0 σ H s n xq de De S L k h => ?_⟩
  obtain ⟨ds, es, h⟩ := h
  obtain ⟨a, xs, z1, z2, z3, z4⟩ := own_lst S hi es
  refine ⟨_, z1, .inl ⟨rfl, _, SqL.of z3⟩, f aS A0 H0 σ H s n xq _ S L (mn _ _ _ _ _ (fun d n' q v H' kp st r => ?_) h)⟩
  obtain ⟨j, d, ed, hl, hj, q⟩ := q
  subst ed
  obtain ⟨v1, v2, ev, r1, r2⟩ := rl_two r
  simp only [Rep] at r1
  subst ev r1
  have z3' := kp _ _ z3 z2
  have z4' := z4.kp kp S.st AV.st
  refine hr _ _ _ _ ⟨a, xs, j, v2, rfl, rfl, z3', by rw [z4.length]; exact lim_lt hl, by omega, by unfold LIM at hj; omega, ?_⟩
  rw [Int.toNat_natCast]
  exact k.nx _ _ _ _ ((S.step kp st).mutL hi z1 z3' (((z4'.take j).app (RepL.cons r2 RepL.nil)).app (z4'.drop j))) q
/-- y = xs.pop(e), xs owned -/
def sPopAt (i j : Nat) (m : EM D) : SM := fun xq de s n => ∃ ds, s[i]? = some (some (.lst ds)) ∧ m xq s n fun d n' => ∃ (k : Nat) (x : D), d = .int k ∧ ds[k]? = some x ∧ de.nx ((s.set i (some (.lst (ds.eraseIdx k)))).set j (some x)) n'
/-- f.append(xs.pop(e)), both owned -/
def sAppPop (j i : Nat) (m : EM D) : SM := fun xq de s n => ∃ fs ds, s[j]? = some (some (.lst fs)) ∧ s[i]? = some (some (.lst ds)) ∧ m xq s n fun d n' => ∃ (k : Nat) (x : D), d = .int k ∧ ds[k]? = some x ∧ ds.length ≤ LIM ∧ fs.length < LIM ∧ de.nx ((s.set i (some (.lst (ds.eraseIdx k)))).set j (some (.lst (fs ++ [x])))) n'
end
end DL
namespace DL
open PySem L2
open PySem.Spec
open PyProof.Rows
/-! enumerate of a tuple: the kit has the list alone -/
abbrev enumO (src : Addr) : Obj := { cls := .type "enumerate", data := .fields #[.none, .bool false, .ref src, rawInt 0, .none, .none] }
/-- enumerate.__new__ over whatever begins a walk -/
theorem new_enum {v : Value} {o : Obj} {C : Heap → Prop} (B : Begins v o C) :
    Meets (Builtin.«enumerate.__new__» ⟨[.type "enumerate", v], []⟩) (fun _ R s => C s.heap ∧ R (.ok (.ret (.ref (s.heap.push o).objs.size))) { s with heap := (s.heap.push o).push (enumO s.heap.objs.size) }) := by
  refine Meets.of_wp fun prog w A R s ⟨hC, hR⟩ => ?_
  cases s with
  | mk hp gs dd tk os =>
    have isub := sub_enumerate
    have start : ∀ {A' : Around} {E Q : Value → Shared → Prop}, Q (.ref hp.objs.size) ⟨hp.push o, gs, dd, tk, os⟩ → wpAny (model prog w) A' (pyIter v) Q E ⟨hp, gs, dd, tk, os⟩ := fun {A' E Q} q => B.iter prog w A' E ⟨hp, gs, dd, tk, os⟩ Q hC q
    wp_walk using start
    refine wpAny_stack_any fun _ => ?_
    refine wpAny_pure ?_
    split
    · next c _ _ _ _ _ =>
      generalize (c == Value.type "enumerate") = same
      cases same
      all_goals
        wp_walk using start
        exact ⟨_, rfl, hR⟩
    · wp_walk using start
      exact ⟨_, rfl, hR⟩
/-- the pair e over the tuple iterator t of the tuple a, i items told -/
structure EnT (e t a : Addr) (i : Nat) (h : Heap) : Prop where
  ne : e ≠ t
  src : h.IsTupleIter t a i
  enum : ∃ old, IsEnum h e t (i : Int) old
theorem EnT.moved {e t a : Addr} {i : Nat} {h h' : Heap} (z : EnT e t a i h) (k : ∀ b ∈ [e, t], ∀ o, h.get? b = some o → h'.get? b = some o) : EnT e t a i h' := by
  obtain ⟨old, q⟩ := z.enum
  exact ⟨z.ne, z.src.at (k t (by simp)), old, k e (by simp) _ q⟩
/-- enumerate(a tuple): iterator and pair are laid, all else stays -/
theorem made_enum {prog : Program} {w : World} {A : Around} {E Q : Value → Shared → Prop} {s : Shared} {a : Addr} {items : Array Value} (tp : s.heap.IsTuple a items)
    (fin : ∀ h', EnT (s.heap.objs.size + 1) s.heap.objs.size a 0 h' → (∀ b o, s.heap.get? b = some o → h'.get? b = some o) → Q (.ref (s.heap.objs.size + 1)) { s with heap := h' }) : wpAny (model prog w) A (call (.type "enumerate") [.ref a]) Q E s := by
  have B := begins_tuple a items
  refine callType_new F.called_enumerate (by decide) (F.typeCall_enumerate_1 _) (F.newCall_enumerate_1 _) (fun self => F.args_object_init_2 self _) F.entry_enumerate_new (new_enum B) ⟨tp, ?_⟩
  have size1 : ∀ o : Obj, (s.heap.push o).objs.size = s.heap.objs.size + 1 := fun o => Heap.size_push ..
  have top := fun o : Obj => Heap.get?_push_size (s.heap.push o) (o := enumO s.heap.objs.size) rfl
  show _ ∧ _
  rw [size1]
  have top' := top { cls := .type "tuple_iterator", data := .fields #[.ref a, .int 0 0] }
  rw [size1] at top'
  refine ⟨⟨_, top', rfl⟩, fin _ ⟨Nat.succ_ne_self _, ⟨_, Heap.get?_push_of_some _ (Heap.get?_push_size _ B.free), rfl, rfl⟩, .none, top'⟩ fun b o q => Heap.get?_push_of_some _ (Heap.get?_push_of_some _ q)⟩
/-- the tuple at a, each item beside its place in a new pair -/
def ItET (K : PySem.W.Frag) (a : Addr) : It where
  go i H := ∃ xs : List V, SqT K H a xs ∧ i < xs.length
  yld i H v H' := ∃ q x, H q = none ∧ v = .ref q ∧ H' = upd H q (.tup [.int (i : Nat), x]) ∧ ∀ xs, SqT K H a xs → xs[i]? = some x
  stop i H := ∃ xs : List V, SqT K H a xs ∧ xs.length = i
section
variable {P : Program} {w : World} {K : PySem.W.Frag} {elts : List Expr} {kk : Nat} {tpos : Pos} {a e t : Addr}
theorem turn_enumT (nae : a ≠ e) (nat : a ≠ t) : Turn P w K (.Tuple elts kk tpos) (ItET K a) [e, t] e (EnT e t a) where
  mem := List.mem_cons_self
  keep := fun _ _ _ z k => z.moved k
  self := fun _ _ _ _ _ z q => Exists.elim z.enum fun _ en => wpAny_pyIter_enum en q
  obj := fun i h z b hb => by
    obtain ⟨_, en⟩ := z.enum
    obtain ⟨ob, at_, _, dat⟩ := z.src
    have two : b = e ∨ b = t := by simpa using hb
    refine two.elim (fun y => ?_) fun y => ?_ <;> subst y
    · exact ⟨_, en, fun _ y => nomatch y⟩
    · exact ⟨ob, at_, fun _ y => by rw [dat] at y; cases y⟩
  done := fun X eP ew eK calm i pins s σ H E inv foot z ⟨xs, sq, len⟩ => by
    subst eP ew eK
    obtain ⟨its, vals, isT, _⟩ := inv.tuple sq
    obtain ⟨_, en⟩ := z.enum
    have sz : its.toArray.size = i := by rw [List.size_toArray, ← vals.length, len]
    have dr := Draws.tuple (prog := X.prog) (w := X.w) (A := X.A.in1) (show X.A.in1.handled = none from inv.ok.hd calm) t a nat its.toArray
    have ft := foot t (by simp)
    exact wpAny_pyNext_enum_endD dr en (by rw [sz]; exact ⟨z.src, isT⟩) fun h' same => ⟨rfl, inv.turned (t' := s.toks) same ft.1 ft.2.1 ft.2.2.2.1 ft.2.2.2.2.1 ft.2.2.2.2.2⟩
  item := fun X eP ew eK calm i pins s σ H E inv foot z ⟨xs, sq, lt⟩ => by
    subst eP ew eK
    obtain ⟨its, vals, isT, _⟩ := inv.tuple sq
    obtain ⟨old, en⟩ := z.enum
    obtain ⟨u, at_u, rel⟩ := vals.get (List.getElem?_eq_getElem lt)
    have elow : e < s.heap.objs.size := Heap.lt_size en
    have tlow : t < s.heap.objs.size := let ⟨_, y, _⟩ := z.src; Heap.lt_size y
    have dr := Draws.tuple (prog := X.prog) (w := X.w) (A := X.A.in1) (show X.A.in1.handled = none from inv.ok.hd calm) t a nat its.toArray
    refine wpAny_pyNext_enum_itemC dr en ⟨z.src, isT⟩ (by rw [List.size_toArray, ← vals.length]; exact lt) z.ne (by simp; exact ⟨z.ne, Ne.symm nae⟩) fun y h' tk drawn owned src' pair _ rest => ?_
    obtain rfl : u = y := Option.some.inj (at_u.symm.trans (by simpa using drawn))
    refine ⟨_, rfl, wpAny_letOwnedTupleGo_enum (s := { s with heap := h', toks := tk + 1 }) owned fun h'' en' but => ?_⟩
    have pair' := (but.2 _ (Nat.ne_of_gt elow)).trans pair
    have others : ∀ b ob, b ∉ [e, t] → s.heap.get? b = some ob → h''.get? b = some ob := fun b ob nb q => (but.2 b fun y => nb (y ▸ List.mem_cons_self)).trans (rest b ob (fun y => nb (y ▸ List.mem_cons_self)) (fun y => nb (by simp [y])) q)
    have laid : ObjOk X.prog X.w (upd H s.heap.objs.size (.tup [.int (i : Nat), xs[i]])) h'' s.heap.objs.size (.tup [.int (i : Nat), xs[i]]) := ⟨by show 2 ≤ sizeLine; decide, _, .cons ⟨tk, rfl⟩ (.cons rel .nil), _, pair', rfl, _, rfl⟩
    refine ⟨.ref s.heap.objs.size, _, inv.turnedNew (t' := tk + 1) others foot (Nat.le_refl _) laid, rfl, ⟨_, xs[i], inv.hok.fresh (Nat.le_refl _), rfl, rfl, fun zs sq' => ?_⟩, ⟨z.ne, src'.1.at fun o q => (but.2 t (Ne.symm z.ne)).trans q, u, ?_⟩, fun b hb => ?_⟩
    · rw [inv.tuple_inj sq' sq]
      exact List.getElem?_eq_getElem lt
    · rw [Int.natCast_succ]
      exact en'
    · have low : b < s.heap.objs.size := (List.mem_cons.mp hb).elim (fun y => y ▸ elow) fun y => List.mem_singleton.mp y ▸ tlow
      rw [upd_ne (Nat.ne_of_lt low)]
      exact (foot b hb).1
theorem walk_enumT {xs : List V} : Walk (ItET K a) xs.length (fun H => SqT K H a xs) (YPair (fun i => some (.int (i : Nat))) (fun i => xs[i]?)) where
  goes := fun _ _ lt sq => ⟨xs, sq, lt⟩
  stops := fun _ sq => ⟨xs, sq, rfl⟩
  yields := fun i _ _ _ _ sq ⟨q, x, new, ev, eH, tells⟩ => ⟨q, .int (i : Nat), x, ev, new, eH, rfl, tells xs sq⟩
end
/-- a list or a tuple, enumerated -/
def iEnumA (K : PySem.W.Frag) (ta : TA) : TI := fun σ H R => ta σ H fun vs H1 => ∃ a xs, vs = [.ref a] ∧ ((SqL K H1 a xs ∧ R (Ite K a) H1) ∨ (SqT K H1 a xs ∧ R (ItET K a) H1))
section
variable {X : Cx} {elts : List Expr} {kk : Nat} {tpos : Pos} {pins : List (Addr × Obj)} {σ : L2.St} {H : Hp} {s : Shared} {R : It → Hp → Prop} {a : Addr} {xs : List V}
/-- two new objects are nobody's -/
theorem new_foot (inv : Inv X pins σ H s) : ∀ b ∈ [s.heap.objs.size + 1, s.heap.objs.size], FpOk X pins H b := fun b hb => by
  have up : s.heap.objs.size ≤ b := (List.mem_cons.mp hb).elim (fun y => y ▸ Nat.le_succ _) fun y => Nat.le_of_eq (List.mem_singleton.mp y).symm
  exact inv.fpOk up (inv.hok.fresh up)
theorem enum_made (inv : Inv X pins σ H s) (q : (SqL X.K H a xs ∧ R (Ite X.K a) H) ∨ (SqT X.K H a xs ∧ R (ItET X.K a) H)) :
    wpAny (model X.prog X.w) X.A (call (.type "enumerate") [.ref a]) (fun v s1 => wpAny (model X.prog X.w) X.A (pyIter v) (PIE X pins σ (.Tuple elts kk tpos) R) X.xe s1) X.xe s := by
  cases q with
  | inl q =>
    obtain ⟨_, _, li, _⟩ := inv.list q.1
    exact call_enumerate_list li.isList fun h' en it _ same => wpAny_pyIter_enum en ⟨_, _, _, _, H, rfl, inv.kept (t' := s.toks) same, turn_enum a _ _, ⟨⟨.none, en⟩, it, Nat.succ_ne_self _⟩, new_foot inv, q.2⟩
  | inr q =>
    obtain ⟨_, _, tp, _⟩ := inv.tuple q.1
    have low : a < s.heap.objs.size := let ⟨_, y, _⟩ := tp; Heap.lt_size y
    exact made_enum tp fun h' z same => Exists.elim z.enum fun _ en => wpAny_pyIter_enum en ⟨_, _, _, _, H, rfl, inv.kept (t' := s.toks) same, turn_enumT (Nat.ne_of_lt (Nat.lt_succ_of_lt low)) (Nat.ne_of_lt low), z, new_foot inv, q.2⟩
theorem pi_enumA {e : Expr} {ta : TA} {p pos : Pos} (hg : Gl X "enumerate") (hm : X.mg "enumerate" = none) (ha : PA X [e] ta) (hs : starEach [e] X.env = [(false, eval e X.env)] := by rfl) :
    PI X (.Tuple elts kk tpos) (.Call (.Name "enumerate" p) [e] [] pos) (iEnumA X.K ta) where
  run pins s σ H R inv h := Call_ (ld_blt inv hg hm boot_enumerate (callWith_type1 (thn (ha.run pos pins s σ H _ inv h) fun us s1 ⟨vs, H1, inv1, rel, a, xs, ev, q⟩ => by
    subst ev
    obtain ⟨u, eu, ru⟩ := vals1 rel
    subst eu
    cases ru
    exact enum_made inv1 q) hs rfl))
end
end DL
namespace DL
open PySem PySem.Spec PyProof.Rows L2
variable [TabC]
/-! ### what is walked -/
def Far (aS : Addr) (A0 : AS) (Hb : Hp) (A : AS) : Prop := A aS ∧ ∀ b, A b → A0 b ∨ b = aS ∨ Hb b = none
def ItOk (K : PySem.W.Frag) (aS : Addr) (A0 : AS) (ds : List D) (J : It) (Hb : Hp) : Prop := ∃ (G : Hp → Prop) (Y : Nat → Hp → V → Hp → Prop), Walk J ds.length G Y ∧ (∀ H1, KpS aS Hb H1 → G H1) ∧
  ∀ (i : Nat) (H1 : Hp) (x : V) (H2 : Hp) (n : Nat) (A : AS), i < ds.length → KpS aS Hb H1 → StA K aS H1 n → Far aS A0 Hb A → Y i H1 x H2 → Gr H1 H2 ∧ ∃ d, ds[i]? = some d ∧ Rep K aS H2 A d x
def hideL (s : Ev) : List Nat → Ev
  | [] => s
  | v :: vs => (hideL s vs).set v none
def VI (X : Cx) (E : XK) (O OB hid : List Nat) (tg iter : Expr) (m : EM (List D)) : Prop := Mn m ∧ ∃ wi, PI X tg iter wi ∧ ∀ (aS : Addr) (A0 : A0T) (H0 : Hp) (σ : L2.St) (H : Hp) (s : Ev) (n : Nat) (xq : XQ) (R : It → Hp → Prop), SR X.K aS O A0 H0 σ H s n → LX X.K E aS A0 H0 xq →
  m xq s n (fun ds n' => ∀ J H' (A1 : A0T), KpS aS H H' → StA X.K aS H' n' → AV aS A1 OB σ = AV aS A0 O σ → SR X.K aS OB A1 H0 σ H' (hideL s hid) n' → ItOk X.K aS A1 ds J (bare OB σ H') → R J H') → wi σ H R
/-- .. in a statement -/
def VIs (X : Cx) (E : XK) (O : List Nat) (tg iter : Expr) (m : EM (List D)) : Prop := Mn m ∧ ∃ wi, PI X tg iter wi ∧ ∀ (aS : Addr) (A0 : A0T) (H0 : Hp) (σ : L2.St) (H : Hp) (s : Ev) (n : Nat) (xq : XQ) (R : It → Hp → Prop), SR X.K aS O A0 H0 σ H s n → LX X.K E aS A0 H0 xq →
  m xq s n (fun ds n' => ∀ J H', KpS aS H H' → StA X.K aS H' n' → ItOk X.K aS A0 ds J (bare O σ H') → R J H') → wi σ H R
theorem VIs.vi {X : Cx} {E : XK} {O : List Nat} {tg iter : Expr} {m : EM (List D)} (h : VIs X E O tg iter m) : VI X E O O [] tg iter m := by
  obtain ⟨mn, wi, p, f⟩ := h
  exact ⟨mn, wi, p, fun aS A0 H0 σ H s n xq R S L hm => f aS A0 H0 σ H s n xq R S L (mn _ _ _ _ _ (fun ds n' q J H' kp st it => q J H' A0 kp st rfl (S.step kp st) it) hm)⟩
section
variable {K : PySem.W.Frag} {aS a : Addr} {H H' H0 H1 Hb : Hp} {A : AS} {A0 : A0T} {O OB : List Nat} {σ : L2.St} {s : Ev} {n : Nat}
theorem KpS.all (k : ∀ b u, H b = some u → H' b = some u) : KpS aS H H' := fun b u e _ => .of (k b u e)
/-- what does not meet what slots own stands on the base -/
theorem SR.onBase (S : SR K aS O A0 H0 σ H s n) (h1 : KpS aS (bare O σ H) H1) (hF : Far aS A0 (bare O σ H) A) : Sub K H H1 (AV aS A0 O σ) A := by
  have nb : ∀ b, ¬ AV aS A0 O σ b → bare O σ H b = H b := fun b h => bare_not fun z => h (.inr (.inr z))
  have ne : ∀ b, ¬ AV aS A0 O σ b → b ≠ aS := fun b h z => h (.inr (.inl z))
  have nA : ∀ b u, ¬ AV aS A0 O σ b → H b = some u → ¬ A b := fun b u h q z => by
    rcases hF.2 b z with z | z | z
    · exact h (.inl z)
    · exact h (.inr (.inl z))
    · rw [nb b h, q] at z
      cases z
  have up : ∀ b u, ¬ AV aS A0 O σ b → H b = some u → Kp1 u (H1 b) := fun b u h q => h1 b u ((nb b h).trans q) (ne b h)
  refine ⟨fun b xs h q => ⟨nA _ _ h q, up _ _ h q⟩, fun b xs q => q.elim (fun q => .inl (h1 b (.tup xs) ?_ fun z => ?_)) .inr, fun b ys h q => ?_, fun b C dx ys h q => ⟨nA _ _ h q, up _ _ h q⟩⟩
  · rw [bare_not]
    · exact q
    · rintro ⟨j, hj, e⟩
      obtain ⟨d, b', e1, e2, e3, e4, e5, e6⟩ := S.ow j hj
      rw [e] at e2
      cases e2
      cases d with
      | lst ds => obtain ⟨xs, e, _⟩ := e6; rw [q] at e; cases e
      | dic ds => obtain ⟨xs, e, _⟩ := e6; rw [q] at e; cases e
      | obj C ds => obtain ⟨dx, xs, e, _⟩ := e6; rw [q] at e; cases e
      | _ => exact e6.elim
  · obtain ⟨ys, e⟩ := S.st.lst
    rw [z, e] at q
    cases q
  · rcases q with q | ⟨z, q⟩
    · exact ⟨nA _ _ h q, .inl (up _ _ h q)⟩
    · exact ⟨nA _ _ h q, .inr ⟨z, up _ _ h q⟩⟩
theorem SR.far (S : SR K aS O A0 H0 σ H s n) : Far aS A0 (bare O σ H) (fun b => A0 b ∨ b = aS) := ⟨.inr rfl, fun b z => z.elim .inl fun z => .inr (.inl z)⟩
theorem SR.onT (S : SR K aS O A0 H0 σ H s n) (h1 : KpS aS (bare O σ H) H1) {xs : List V} (h : TpA K H a xs) : TpA K H1 a xs := (S.onBase h1 S.far).t _ _ h
theorem it_yat {K : PySem.W.Frag} {aS : Addr} {A0 : AS} {ds : List D} {xs : List V} {Hb : Hp} {J : It} {G : Hp → Prop} (w : Walk J xs.length G (YAt xs)) (hl : xs.length = ds.length) (hG : ∀ H1, KpS aS Hb H1 → G H1)
    (hr : ∀ H1 A, KpS aS Hb H1 → Far aS A0 Hb A → RepL K aS H1 A ds xs) : ItOk K aS A0 ds J Hb := by
  refine ⟨G, YAt xs, hl ▸ w, hG, fun i H1 x H2 n A hi k st hF y => ?_⟩
  obtain ⟨e, ex⟩ := y
  subst e
  exact ⟨Gr.refl _, RepL.get' (hr _ A k hF) ex⟩
theorem SR.itL (S : SR K aS O A0 H0 σ H s n) {ds : List D} {xs : List V} (ha : ¬ AV aS A0 O σ a) (h : H a = some (.lst xs)) (r : RepL K aS H (AV aS A0 O σ) ds xs) : ItOk K aS A0 ds (Itl K a) (bare O σ H) :=
  it_yat walk_list r.length (fun H1 k => SqL.of (k a _ ((bare_not fun z => ha (.inr (.inr z))).trans h) fun z => ha (.inr (.inl z)))) fun H1 A k hF => RepL.mono (S.onBase k hF) _ _ r
theorem SR.itT (S : SR K aS O A0 H0 σ H s n) {ds : List D} {xs : List V} (h : TpA K H a xs) (r : RepL K aS H (AV aS A0 O σ) ds xs) : ItOk K aS A0 ds (Itt K a) (bare O σ H) :=
  it_yat walk_tup r.length (fun H1 k => (S.onT k h).sq) fun H1 A k hF => RepL.mono (S.onBase k hF) _ _ r
end
def signs (x : Str) : List D := x.cps.toList.map fun c => .str ⟨#[c]⟩
def dIter : D → Option (List D)
  | .lst xs => some xs
  | .tup xs => some xs
  | .str x => some (signs x)
  | _ => none
def eIter (m : EM D) : EM (List D) := fun xq s n Q => m xq s n fun d n' => ∃ ds, dIter d = some ds ∧ Q ds n'
section
variable {X : Cx} {E : XK} {O OB OL : List Nat} {e tg : Expr} {m : EM D} {pos : Pos}
def IterV (K : PySem.W.Frag) (x : V) (H : Hp) (R : It → Hp → Prop) : Prop := (∃ a xs, x = .ref a ∧ H a = some (.lst xs) ∧ R (Itl K a) H) ∨ (∃ a xs, x = .ref a ∧ TpA K H a xs ∧ R (Itt K a) H) ∨ ∃ z, x = .str z ∧ R (Its z) H
theorem pi_dyn {te : TE} (he : PE X e te) : PI X tg e (fun σ H R => te σ H fun x H1 => IterV X.K x H1 R) := by
  refine ⟨fun pins s σ H R I h => thn (he.run pins s σ H _ I h) fun v s1 ⟨x, H1, I1, r1, q1⟩ => ?_⟩
  rcases q1 with ⟨a, xs, ex, hq, q⟩ | ⟨a, xs, ex, hq, q⟩ | ⟨z, ex, q⟩
  · subst ex
    cases r1
    obtain ⟨its, rv, p, hz⟩ := I1.list (SqL.of hq)
    exact wpAny_pyIter_list p.isList (pi_one (tk := s1.toks) I1 _ (turn_list a _) ⟨_, Heap.get?_push_size _ rfl, rfl, rfl⟩ q)
  · subst ex
    cases r1
    obtain ⟨its, rv, p, hz⟩ := I1.tuple hq.sq
    exact wpAny_pyIter_tuple (show s1.heap.IsTuple a its.toArray from p) (pi_one (tk := s1.toks) I1 _ (turn_tuple a _) ⟨_, Heap.get?_push_size _ rfl, rfl, rfl⟩ q)
  · subst ex
    obtain ⟨t, rfl⟩ := r1
    cases ha : z.cps.all (· < 128)
    · exact wpAny_pyIter_wide ha (pi_one (tk := s1.toks) I1 _ (turn_str _ z t _ (.inr rfl)) ⟨_, Heap.get?_push_size _ rfl, rfl, rfl⟩ q)
    · exact wpAny_pyIter_ascii ha (pi_one (tk := s1.toks) I1 _ (turn_str _ z t _ (.inl rfl)) ⟨_, Heap.get?_push_size _ rfl, rfl, rfl⟩ q)
theorem it_str {K : PySem.W.Frag} {aS : Addr} {A0 : AS} {z : Str} {Hb : Hp} : ItOk K aS A0 (signs z) (Its z) Hb := by
  have hl : (signs z).length = z.cps.size := by simp [signs]
  refine ⟨fun _ => True, _, hl ▸ walk_str, fun _ _ => trivial, fun i H1 x H2 n A hi k st hF y => ?_⟩
  obtain ⟨e, c, hc, ex⟩ := y
  subst e ex
  refine ⟨Gr.refl _, .str ⟨#[c]⟩, ?_, rep_str⟩
  unfold signs
  rw [List.getElem?_map, Array.getElem?_toList, hc]
  rfl
theorem mn_iter (h : Mn m) : Mn (eIter m) := fun xq s n Q Q' hq w => h _ _ _ _ _ (fun d n' ⟨ds, e, q⟩ => ⟨ds, e, hq _ _ q⟩) w
theorem vi_seq (h : VE X E O e m) : VIs X E O tg e (eIter m) := by
  obtain ⟨mn, t, p, f⟩ := h
  refine ⟨mn_iter mn, _, pi_dyn p, fun aS A0 H0 σ H s n xq R S L hm => f aS A0 H0 σ H s n xq _ S L (mn _ _ _ _ _ (fun d n' q v H' kp st r => ?_) hm)⟩
  obtain ⟨ds, e, q⟩ := q
  have S' := S.step kp st
  have q := fun J => q J H' kp st
  unfold dIter at e
  split at e
  · cases e
    rw [Rep] at r
    obtain ⟨a, xs, ev, ha, hq, rl⟩ := r
    exact .inl ⟨a, xs, ev, hq, q _ (S'.itL ha hq rl)⟩
  · cases e
    rw [Rep] at r
    obtain ⟨a, xs, ev, hq, rl⟩ := r
    exact .inr (.inl ⟨a, xs, ev, hq, q _ (S'.itT hq rl)⟩)
  · cases e
    rw [Rep] at r
    exact .inr (.inr ⟨_, r, q _ it_str⟩)
  · cases e
/-- over a list that a slot owns: it is hidden meanwhile -/
theorem vi_own {x : Str} {i : Nat} (hi : i ∈ O) (hN : X.N[i]? = some x) (hv : Vis X.env.scope x) (hd : (x == ("__debug__" : Str)) = false := by decide) (hcd : (x == ("__classdict__" : Str)) = false := by decide) :
    VI X E O (O.filter (· != i)) [i] tg (.Name x pos) (fun xq s n Q => ∃ ds, s[i]? = some (some (.lst ds)) ∧ Q ds n) := by
  refine ⟨fun xq s n Q Q' hq ⟨ds, e, q⟩ => ⟨ds, e, hq _ _ q⟩, _, pi_dyn (pe_var hN hv hd hcd), fun aS A0 H0 σ H s n xq R S L hm => ?_⟩
  obtain ⟨ds, e, q⟩ := hm
  obtain ⟨d, a, e1, e2, e3, e4, e5, e6⟩ := S.ow i hi
  rw [e] at e1
  cases e1
  obtain ⟨xs, ha, rl⟩ := e6
  have mem : ∀ j, j ∈ O.filter (· != i) ↔ j ∈ O ∧ j ≠ i := fun j => by simp [List.mem_filter]
  have eA : AV aS (⟨fun b => A0 b ∨ b = a, A0.z⟩ : A0T) (O.filter (· != i)) σ = AV aS A0 O σ := by
    funext b
    refine propext ⟨fun z => ?_, fun z => ?_⟩
    · rcases z with (z | z) | z | ⟨j, hj, ej⟩
      · exact .inl z
      · exact .inr (.inr ⟨i, hi, z ▸ e2⟩)
      · exact .inr (.inl z)
      · exact .inr (.inr ⟨j, ((mem j).mp hj).1, ej⟩)
    · rcases z with z | z | ⟨j, hj, ej⟩
      · exact .inl (.inl z)
      · exact .inr (.inl z)
      · by_cases hji : j = i
        · subst hji
          rw [e2] at ej
          cases ej
          exact .inl (.inr rfl)
        · exact .inr (.inr ⟨j, (mem j).mpr ⟨hj, hji⟩, ej⟩)
  have nin : i ∉ O.filter (· != i) := fun z => ((mem i).mp z).2 rfl
  have S1 : SR X.K aS (O.filter (· != i)) ⟨fun b => A0 b ∨ b = a, A0.z⟩ H0 σ H (s.set i none) n := by
    refine ⟨by rw [List.length_set]; exact S.len, fun j d' ej hj => ?_, fun j hj => ?_, fun j l b hj hl => S.ds j l b ((mem j).mp hj).1 ((mem l).mp hl).1, S.fr, S.st, fun b hb => ?_, fun z => S.pn ((mem 0).mp z).1⟩
    · rw [eA]
      by_cases hji : j = i
      · subst hji
        have hl : j < s.length := (List.getElem?_eq_some_iff.mp e).1
        rw [List.getElem?_set_self hl] at ej
        cases ej
      · rw [set_other hji] at ej
        exact S.sh j d' ej fun z => hj ((mem j).mpr ⟨z, hji⟩)
    · rw [eA]
      have hj' := (mem j).mp hj
      rw [set_other hj'.2]
      obtain ⟨d', b, q1, q2, q3, q4, q5, q6⟩ := S.ow j hj'.1
      exact ⟨d', b, q1, q2, q3, fun z => z.elim q4 fun z => hj'.2 (S.ds j i a hj'.1 hi (z ▸ q2) e2), q5, q6⟩
    · rcases hb with hb | hb
      · exact S.av b hb
      · exact ⟨_, hb ▸ ha⟩
  refine ⟨.ref a, e2, .inl ⟨a, xs, rfl, ha, q _ H ⟨fun b => A0 b ∨ b = a, A0.z⟩ KpS.refl S.st eA S1 ?_⟩⟩
  have hb : bare (O.filter (· != i)) σ H a = some (.lst xs) := by
    rw [bare_not]
    · exact ha
    · rintro ⟨j, hj, ej⟩
      exact ((mem j).mp hj).2 (S.ds j i a ((mem j).mp hj).1 hi ej e2)
  refine it_yat walk_list rl.length (fun H1 k => SqL.of (k a _ hb e5)) fun H1 A k hF => RepL.mono (S1.onBase k hF) _ _ ?_
  rw [eA]
  exact rl
/-! ranges -/
def eRange1 (m : EM D) : EM (List D) := fun xq s n Q => m xq s n fun d n' => ∃ j : Int, d = .int j ∧ j ≤ LIM ∧ -(2 ^ 62) ≤ j ∧ Q ((List.range j.toNat).map fun i => .int (i : Nat)) n'
def eRange2 (a b : EM D) : EM (List D) := fun xq s n Q => a xq s n fun x n1 => b xq s n1 fun y n2 => ∃ i j : Int, x = .int i ∧ y = .int j ∧ (-(2 ^ 62) ≤ i ∧ i < 2 ^ 62 ∧ -(2 ^ 62) ≤ j ∧ j < 2 ^ 62) ∧ Q ((List.range (j - i).toNat).map fun k => .int (i + (k : Nat))) n2
theorem it_range {K : PySem.W.Frag} {aS : Addr} {A0 : AS} {lo : Int} {k : Nat} {Hb : Hp} {f : Nat → D} (hf : ∀ i, f i = .int (lo + (i : Nat))) : ItOk K aS A0 ((List.range k).map f) (Itr lo k) Hb := by
  have hl : ((List.range k).map f).length = k := by simp
  refine ⟨fun _ => True, _, (by rw [hl]; exact walk_range (lo := lo) (n := k)), fun _ _ => trivial, fun i H1 x H2 n A hi kp st hF y => ?_⟩
  obtain ⟨e, ex⟩ := y
  subst e ex
  refine ⟨Gr.refl _, .int (lo + (i : Nat)), ?_, rep_int⟩
  rw [List.getElem?_map, List.getElem?_range (by simpa using hi)]
  exact congrArg some (hf i)
theorem vi_range1 {a : Expr} {p : Pos} (hg : Gl X "range") (hm : X.mg "range" = none) (h : VB X E O a m) (hs : starEach [a] X.env = [(false, eval a X.env)] := by rfl) (hs' : starEach [a] X.env = (false, eval a X.env) :: starEach [] X.env := by rfl) : VIs X E O tg (.Call (.Name "range" p) [a] [] pos) (eRange1 m) := by
  obtain ⟨mn, t, pe, f⟩ := h
  refine ⟨fun xq s n Q Q' hq w => mn _ _ _ _ _ (fun d n' ⟨j, e1, e2, e3, q⟩ => ⟨j, e1, e2, e3, hq _ _ q⟩) w, _, pi_range1 hg hm (pa_cons pe pa_nil hs') hs, fun aS A0 H0 σ H s n xq R S L hm => f aS A0 H0 σ H s n xq _ S L (mn _ _ _ _ _ (fun d n' q v H' kp st r => ?_) hm)⟩
  obtain ⟨j, e1, e2, e3, q⟩ := q
  subst e1
  refine ⟨j, by rw [repB_int r], e3, by unfold LIM at e2; omega, q _ H' kp st (it_range fun i => by rw [Int.zero_add])⟩
theorem vi_range2 {a b : Expr} {ma mb : EM D} {p : Pos} (hg : Gl X "range") (hm : X.mg "range" = none) (ha : VB X E O a ma) (hb : VB X E O b mb) (hs : starEach [a, b] X.env = [(false, eval a X.env), (false, eval b X.env)] := by rfl) (hs2 : starEach [b] X.env = [(false, eval b X.env)] := by rfl)
    (hs' : starEach [a, b] X.env = (false, eval a X.env) :: starEach [b] X.env := by rfl) (hs'' : starEach [b] X.env = (false, eval b X.env) :: starEach [] X.env := by rfl) : VIs X E O tg (.Call (.Name "range" p) [a, b] [] pos) (eRange2 ma mb) := by
  obtain ⟨mna, ta, pa, fa⟩ := ha
  obtain ⟨mnb, tb, pb, fb⟩ := hb
  refine ⟨fun xq s n Q Q' hq w => mna _ _ _ _ _ (fun d n' w => mnb _ _ _ _ _ (fun d' n'' ⟨i, j, e1, e2, e3, q⟩ => ⟨i, j, e1, e2, e3, hq _ _ q⟩) w) w, _, pi_range2 hg hm (pa_cons pa (pa_cons pb pa_nil hs'') hs') hs hs2, fun aS A0 H0 σ H s n xq R S L hm => ?_⟩
  refine fa aS A0 H0 σ H s n xq _ S L (mna _ _ _ _ _ (fun d1 n1 q v1 H1 k1 st1 r1 => ?_) hm)
  refine fb aS A0 H0 σ H1 s n1 xq _ (S.step k1 st1) L (mnb _ _ _ _ _ (fun d2 n2 q2 v2 H2 k2 st2 r2 => ?_) q)
  obtain ⟨i, j, e1, e2, e3, q3⟩ := q2
  subst e1 e2
  exact ⟨i, j, by rw [repB_int r1, repB_int r2], e3, q3 _ H2 (k1.trans k2) st2 (it_range fun _ => rfl)⟩
/-! enumerate, zip -/
def pairsD : Nat → List D → List D
  | _, [] => []
  | k, d :: ds => .tup [.int (k : Nat), d] :: pairsD (k + 1) ds
theorem pairsD_length : ∀ (k : Nat) (ds : List D), (pairsD k ds).length = ds.length
  | _, [] => rfl
  | k, d :: ds => by rw [pairsD, List.length_cons, List.length_cons, pairsD_length (k + 1) ds]
theorem pairsD_get : ∀ (k i : Nat) (ds : List D) (d : D), ds[i]? = some d → (pairsD k ds)[i]? = some (.tup [.int ((k + i : Nat) : Int), d])
  | _, _, [], _, h => by simp at h
  | k, 0, d :: ds, d', h => by
    simp at h
    subst h
    rfl
  | k, i + 1, d :: ds, d', h => by
    rw [pairsD, List.getElem?_cons_succ, pairsD_get (k + 1) i ds d' (by simpa using h)]
    have e : k + 1 + i = k + (i + 1) := by omega
    rw [e]
theorem it_ypair {K : PySem.W.Frag} {aS : Addr} {A0 : AS} {ds : List D} {Hb : Hp} {J : It} {k : Nat} {G : Hp → Prop} {f g : Nat → Option V} (w : Walk J k G (YPair f g)) (hl : k = ds.length) (hG : ∀ H1, KpS aS Hb H1 → G H1)
    (hr : ∀ i H1 A x y, i < ds.length → KpS aS Hb H1 → Far aS A0 Hb A → f i = some x → g i = some y → ∃ d1 d2, ds[i]? = some (.tup [d1, d2]) ∧ Rep K aS H1 A d1 x ∧ Rep K aS H1 A d2 y) : ItOk K aS A0 ds J Hb := by
  subst hl
  refine ⟨G, _, w, hG, fun i H1 v H2 n A hi kp st hF y => ?_⟩
  obtain ⟨T, x, y, ev, hT, e2, h1, h2⟩ := y
  subst ev e2
  obtain ⟨d1, d2, e, r1, r2⟩ := hr i H1 A x y hi kp hF h1 h2
  refine ⟨Gr.upd hT, _, e, rep_tup (.inl upd_same) ?_⟩
  exact RepL.kp (KpS.upd hT) st hF.1 (RepL.cons r1 (RepL.cons r2 RepL.nil))
def dSeq : D → Option (List D)
  | .lst xs => some xs
  | .tup xs => some xs
  | _ => none
def eEnum (m : EM D) : EM (List D) := fun xq s n Q => m xq s n fun d n' => ∃ ds, dSeq d = some ds ∧ Q (pairsD 0 ds) n'
theorem vi_enum {a : Expr} {p tpos : Pos} {elts : List Expr} {kk : Nat} (hg : Gl X "enumerate") (hm : X.mg "enumerate" = none) (h : VE X E O a m) (hs : starEach [a] X.env = [(false, eval a X.env)] := by rfl) (hs' : starEach [a] X.env = (false, eval a X.env) :: starEach [] X.env := by rfl) :
    VIs X E O (.Tuple elts kk tpos) (.Call (.Name "enumerate" p) [a] [] pos) (eEnum m) := by
  obtain ⟨mn, t, pe, f⟩ := h
  refine ⟨fun xq s n Q Q' hq w => mn _ _ _ _ _ (fun d n' ⟨j, e1, q⟩ => ⟨j, e1, hq _ _ q⟩) w, _, pi_enumA hg hm (pa_cons pe pa_nil hs') hs, fun aS A0 H0 σ H s n xq R S L hm => f aS A0 H0 σ H s n xq _ S L (mn _ _ _ _ _ (fun d n' q v H' kp st r => ?_) hm)⟩
  obtain ⟨ds, e, q⟩ := q
  have S' := S.step kp st
  have q := fun J => q J H' kp st
  have fin : ∀ {xs : List V}, RepL X.K aS H' (AV aS A0 O σ) ds xs → ∀ i H1 A x y, i < (pairsD 0 ds).length → KpS aS (bare O σ H') H1 → Far aS A0 (bare O σ H') A → (some (V.int (i : Nat)) : Option V) = some x → xs[i]? = some y → ∃ d1 d2, (pairsD 0 ds)[i]? = some (.tup [d1, d2]) ∧ Rep X.K aS H1 A d1 x ∧ Rep X.K aS H1 A d2 y := by
    intro xs rl i H1 A x y hi k1 st1 hx hy
    cases hx
    obtain ⟨d2, e2, r2⟩ := RepL.get' (RepL.mono (S'.onBase k1 st1) _ _ rl) hy
    refine ⟨.int (i : Nat), d2, ?_, rep_int, r2⟩
    rw [pairsD_get 0 i ds d2 e2, Nat.zero_add]
  unfold dSeq at e
  split at e
  · cases e
    rw [Rep] at r
    obtain ⟨b, xs, ev, ha, hq, rl⟩ := r
    refine ⟨b, xs, by rw [ev], .inl ⟨SqL.of hq, q _ (it_ypair walk_enum (by rw [pairsD_length, rl.length]) (fun H1 k => SqL.of (k b _ ((bare_not fun z => ha (.inr (.inr z))).trans hq) fun z => ha (.inr (.inl z)))) (fin rl))⟩⟩
  · cases e
    rw [Rep] at r
    obtain ⟨b, xs, ev, hq, rl⟩ := r
    refine ⟨b, xs, by rw [ev], .inr ⟨hq.sq, q _ (it_ypair walk_enumT (by rw [pairsD_length, rl.length]) (fun H1 k => (S'.onT k hq).sq) (fin rl))⟩⟩
  · cases e
def zipD : List D → List D → List D
  | x :: xs, y :: ys => .tup [x, y] :: zipD xs ys
  | _, _ => []
theorem zipD_length : ∀ xs ys : List D, (zipD xs ys).length = min xs.length ys.length
  | [], _ => by simp [zipD]
  | _ :: _, [] => by simp [zipD]
  | x :: xs, y :: ys => by rw [zipD, List.length_cons, zipD_length xs ys, List.length_cons, List.length_cons]; omega
theorem zipD_get : ∀ (i : Nat) (xs ys : List D) (x y : D), xs[i]? = some x → ys[i]? = some y → (zipD xs ys)[i]? = some (.tup [x, y])
  | _, [], _, _, _, h, _ => by simp at h
  | _, _ :: _, [], _, _, _, h => by simp at h
  | 0, x :: xs, y :: ys, _, _, h, h2 => by
    simp at h h2
    subst h h2
    rfl
  | i + 1, x :: xs, y :: ys, x', y', h, h2 => by
    rw [zipD, List.getElem?_cons_succ]
    exact zipD_get i xs ys x' y' (by simpa using h) (by simpa using h2)
theorem walk_zipT {K : PySem.W.Frag} {a b : Addr} {xs ys : List V} {n : Nat} (hn : n = min xs.length ys.length) : Walk (RZ.ItzT K a b) n (fun H => SqT K H a xs ∧ SqT K H b ys) (YPair (fun i => xs[i]?) (fun i => ys[i]?)) where
  goes := fun i H hi ⟨qa, qb⟩ => ⟨xs, ys, xs[i]'(by omega), ys[i]'(by omega), qa, qb, List.getElem?_eq_getElem _, List.getElem?_eq_getElem _⟩
  stops := fun H ⟨qa, qb⟩ => ⟨xs, ys, qa, qb, by omega⟩
  yields := fun i H v H' _ ⟨qa, qb⟩ ⟨T, x, y, e1, e2, e3, ea, eb⟩ => ⟨T, x, y, e1, e2, e3, ea xs qa, eb ys qb⟩
/-- two lists, or two tuples -/
def dZip : D → D → Option (List D)
  | .lst xs, .lst ys => some (zipD xs ys)
  | .tup xs, .tup ys => some (zipD xs ys)
  | _, _ => none
def eZip (a b : EM D) : EM (List D) := fun xq s n Q => a xq s n fun x n1 => b xq s n1 fun y n2 => ∃ ds, dZip x y = some ds ∧ Q ds n2
theorem vi_zip {a b : Expr} {ma mb : EM D} {p tpos : Pos} {elts : List Expr} {kk : Nat} (hg : Gl X "zip") (hm : X.mg "zip" = none) (ha : VE X E O a ma) (hb : VE X E O b mb)
    (hs : starEach [a, b] X.env = (false, eval a X.env) :: starEach [b] X.env := by rfl) (hpl : (backTo pos (starEach [b] X.env)).any (·.1) = false := by rfl) (hs'' : starEach [b] X.env = (false, eval b X.env) :: starEach [] X.env := by rfl) :
    VIs X E O (.Tuple elts kk tpos) (.Call (.Name "zip" p) [a, b] [] pos) (eZip ma mb) := by
  obtain ⟨mna, ta, pa, fa⟩ := ha
  obtain ⟨mnb, tb, pb, fb⟩ := hb
  refine ⟨fun xq s n Q Q' hq w => mna _ _ _ _ _ (fun d n' w => mnb _ _ _ _ _ (fun d' n'' ⟨i, e1, q⟩ => ⟨i, e1, hq _ _ q⟩) w) w, _, RZ.pi_zipA hg hm (pa_cons pa (pa_cons pb pa_nil hs'') hs) hs hpl, fun aS A0 H0 σ H s n xq R S L hm => ?_⟩
  refine fa aS A0 H0 σ H s n xq _ S L (mna _ _ _ _ _ (fun d1 n1 q v1 H1 k1 st1 r1 => ?_) hm)
  refine fb aS A0 H0 σ H1 s n1 xq _ (S.step k1 st1) L (mnb _ _ _ _ _ (fun d2 n2 q2 v2 H2 k2 st2 r2 => ?_) q)
  obtain ⟨ds, e, q3⟩ := q2
  have S' := S.step (k1.trans k2) st2
  have q3 := fun J => q3 J H2 (k1.trans k2) st2
  have r1 := r1.kp k2 st1 AV.st
  have fin : ∀ {xs ys : List V} {us ws : List D}, RepL X.K aS H2 (AV aS A0 O σ) us xs → RepL X.K aS H2 (AV aS A0 O σ) ws ys → ∀ i H1 A x y, i < (zipD us ws).length → KpS aS (bare O σ H2) H1 → Far aS A0 (bare O σ H2) A → xs[i]? = some x → ys[i]? = some y → ∃ d1 d2, (zipD us ws)[i]? = some (.tup [d1, d2]) ∧ Rep X.K aS H1 A d1 x ∧ Rep X.K aS H1 A d2 y := by
    intro xs ys us ws rl rl2 i H1 A x y hi k1 st1 hx hy
    obtain ⟨d1, e1, r1⟩ := RepL.get' (RepL.mono (S'.onBase k1 st1) _ _ rl) hx
    obtain ⟨d2, e2, r2⟩ := RepL.get' (RepL.mono (S'.onBase k1 st1) _ _ rl2) hy
    exact ⟨d1, d2, zipD_get i us ws d1 d2 e1 e2, r1, r2⟩
  unfold dZip at e
  split at e
  · cases e
    rw [Rep] at r1 r2
    obtain ⟨b1, xs, ev, ha, hq, rl⟩ := r1
    obtain ⟨b2, ys, ev2, ha2, hq2, rl2⟩ := r2
    subst ev ev2
    refine ⟨b1, b2, xs, ys, rfl, .inl ⟨SqL.of hq, SqL.of hq2, q3 _ (it_ypair (walk_zip rfl) (by rw [zipD_length, rl.length, rl2.length]) (fun H1 k => ⟨SqL.of (k b1 _ ((bare_not fun z => ha (.inr (.inr z))).trans hq) fun z => ha (.inr (.inl z))), SqL.of (k b2 _ ((bare_not fun z => ha2 (.inr (.inr z))).trans hq2) fun z => ha2 (.inr (.inl z)))⟩) (fin rl rl2))⟩⟩
  · cases e
    rw [Rep] at r1 r2
    obtain ⟨b1, xs, ev, hq, rl⟩ := r1
    obtain ⟨b2, ys, ev2, hq2, rl2⟩ := r2
    subst ev ev2
    refine ⟨b1, b2, xs, ys, rfl, .inr ⟨hq.sq, hq2.sq, q3 _ (it_ypair (walk_zipT rfl) (by rw [zipD_length, rl.length, rl2.length]) (fun H1 k => ⟨(S'.onT k hq).sq, (S'.onT k hq2).sq⟩) (fin rl rl2))⟩⟩
  · cases e
end
end DL
namespace DL
open PySem PySem.Spec PyProof.Rows L2
variable [TabC]
/-! ### targets -/
abbrev DG := D → Ev → (Ev → Prop) → Prop
abbrev DGs := List D → Ev → (Ev → Prop) → Prop
/-- a target stores into the slots vs alone -/
def VG (X : Cx) (O vs : List Nat) (tg : Expr) (g : DG) : Prop := (∀ d s Q Q', (∀ s', Q s' → Q' s') → g d s Q → g d s Q') ∧ ∃ gt, PG X tg gt ∧ ∀ (aS : Addr) (A0 : A0T) (H0 : Hp) (σ : L2.St) (H : Hp) (s : Ev) (n : Nat) (d : D) (v : V) (Q : Ev → Prop) (QH : L2.St → Hp → Prop), SR X.K aS O A0 H0 σ H s n → Rep X.K aS H (AV aS A0 O σ) d v → g d s Q →
  (∀ σ' s', SR X.K aS O A0 H0 σ' H s' n → σ'.length = σ.length → (∀ j, j ∉ vs → σ'[j]? = σ[j]?) → AV aS A0 O σ' = AV aS A0 O σ → Q s' → QH σ' H) → gt v σ H QH
def VGs (X : Cx) (O vs : List Nat) (tg : List Expr) (g : DGs) : Prop := (∀ d s Q Q', (∀ s', Q s' → Q' s') → g d s Q → g d s Q') ∧ ∃ gt, PGs X tg gt ∧ ∀ (aS : Addr) (A0 : A0T) (H0 : Hp) (σ : L2.St) (H : Hp) (s : Ev) (n : Nat) (d : List D) (v : List V) (Q : Ev → Prop) (QH : L2.St → Hp → Prop), SR X.K aS O A0 H0 σ H s n → RepL X.K aS H (AV aS A0 O σ) d v → g d s Q →
  (∀ σ' s', SR X.K aS O A0 H0 σ' H s' n → σ'.length = σ.length → (∀ j, j ∉ vs → σ'[j]? = σ[j]?) → AV aS A0 O σ' = AV aS A0 O σ → Q s' → QH σ' H) → gt v σ H QH
def gNm (i : Nat) : DG := fun d s Q => Q (s.set i (some d))
def gTp (g : DGs) : DG := fun d s Q => ∃ ds, d = .tup ds ∧ g ds s Q
def gsNil : DGs := fun ds s Q => ds = [] ∧ Q s
def gsCons (g : DG) (r : DGs) : DGs := fun ds s Q => ∃ d dr, ds = d :: dr ∧ g d s fun s' => r dr s' Q
section
variable {X : Cx} {E : XK} {O O' OB OL vs ws hid : List Nat} {e tg : Expr} {es : List Expr} {m : EM D} {mi : EM (List D)} {mt : EM Bool} {mb : SM} {g : DG} {gs : DGs} {pos : Pos} {i : Nat}
theorem vg_name {x : Str} (hi : i ∉ O) (hnd : X.N.Nodup) (hN : X.N[i]? = some x) (hx : Loc X.env.scope x) (hf : X.fn x = true ∨ X.env.scope.names.lookup x = some .local := by first | exact .inl rfl | exact .inr rfl | assumption) : VG X O [i] (.Name x pos) (gNm i) := by
  refine ⟨fun _ _ _ _ hq h => hq _ h, _, pg_name hnd hN hx hf, fun aS A0 H0 σ H s n d v Q QH S r h k => ?_⟩
  exact k _ _ (S.set hi r) (by rw [List.length_set]) (fun j hj => set_other fun z => hj (by simp [z])) (AV.set hi) h
theorem vgs_nil : VGs X O [] [] gsNil := ⟨fun _ _ _ _ hq h => ⟨h.1, hq _ h.2⟩, _, pgs_nil, fun aS A0 H0 σ H s n d v Q QH S r h k => by
  obtain ⟨e, h⟩ := h
  subst e
  rw [RepL] at r
  exact ⟨r, k σ s S rfl (fun _ _ => rfl) rfl h⟩⟩
theorem vgs_cons (h1 : VG X O vs e g) (h2 : VGs X O ws es gs) (hs : (assignEach (e :: es) X.env).map (·.2) = assign e X.env :: (assignEach es X.env).map (·.2) := by rfl) : VGs X O (vs ++ ws) (e :: es) (gsCons g gs) := by
  obtain ⟨n1, g1, p1, f1⟩ := h1
  obtain ⟨n2, g2, p2, f2⟩ := h2
  refine ⟨fun _ _ _ _ hq ⟨d, dr, e, h⟩ => ⟨d, dr, e, n1 _ _ _ _ (fun _ h => n2 _ _ _ _ hq h) h⟩, _, pgs_cons p1 p2 hs, fun aS A0 H0 σ H s n d v Q QH S r h k => ?_⟩
  obtain ⟨d1, dr, ed, h⟩ := h
  subst ed
  rw [RepL] at r
  obtain ⟨v1, vr, ev, r1, r2⟩ := r
  refine ⟨v1, vr, ev, f1 aS A0 H0 σ H s n d1 v1 _ _ S r1 h fun σ1 s1 S1 l1 o1 a1 q1 => ?_⟩
  refine f2 aS A0 H0 σ1 H s1 n dr vr Q QH S1 (by rw [a1]; exact r2) q1 fun σ2 s2 S2 l2 o2 a2 q2 => ?_
  refine k σ2 s2 S2 (l2.trans l1) (fun j hj => ?_) (a2.trans a1) q2
  rw [o2 j fun z => hj (List.mem_append_right _ z), o1 j fun z => hj (List.mem_append_left _ z)]
theorem vg_tup {k : Nat} {n : Nat} (hc : X.calm = true) (h : VGs X O vs es gs) (hl : ∀ ds s Q, gs ds s Q → ds.length = n) (hn : (assignEach es X.env).length = n := by rfl) (hst : (assignEach es X.env).findIdx? (·.1) = none := by rfl) : VG X O vs (.Tuple es k pos) (gTp gs) := by
  obtain ⟨n1, g1, p1, f1⟩ := h
  refine ⟨fun _ _ _ _ hq ⟨ds, e, h⟩ => ⟨ds, e, n1 _ _ _ _ hq h⟩, _, pg_tup hc p1 hn hst, fun aS A0 H0 σ H s n d v Q QH S r h k => ?_⟩
  obtain ⟨ds, ed, h⟩ := h
  subst ed
  rw [Rep] at r
  obtain ⟨a, xs, ev, hq, rl⟩ := r
  exact ⟨a, xs, ev, hq.sq, by rw [rl.length]; exact hl _ _ _ h, f1 aS A0 H0 σ H s n ds xs Q QH S rl h k⟩
theorem gs_len0 {ds : List D} {s : Ev} {Q : Ev → Prop} (h : gsNil ds s Q) : ds.length = 0 := by rw [h.1]; rfl
/-- target = e, the target a tuple of names (or any) -/
def sAsg (m : EM D) (g : DG) : SM := fun xq de s n => m xq s n fun d n' => g d s fun s' => de.nx s' n'
theorem vs_asg (h : VE X E O e m) (hg : VG X O vs tg g) (hs : swapsWithSole [tg] e pos.line X.env = pure false := by rfl) (hw : swappedStores [tg] e X.env = pure none := by rfl)
    (h1 : (assignEach [tg] X.env).map (·.2) = [assign tg X.env] := by rfl) : VS X E O O OL (.Assign [tg] e pos) (sAsg m g) := by
  obtain ⟨mn, t, p, f⟩ := h
  obtain ⟨_, g1, p1, f1⟩ := hg
  refine ⟨_, ps_asg p p1 hs hw h1, fun aS A0 H0 σ H s n xq de De S L k h => f aS A0 H0 σ H s n xq _ S L (mn _ _ _ _ _ (fun d n' q v H' kp st r => ?_) h)⟩
  exact f1 aS A0 H0 σ H' s n' d v _ _ (S.step kp st) r q fun σ' s' S' _ _ _ q' => k.nx σ' H' s' n' S' q'
/-! ### for -/
def sForL (g : DG) (mb : SM) (xq : XQ) (de : DE) : List D → Ev → Nat → Prop
  | [], s, n => de.nx s n
  | d :: ds, s, n => g d s fun s1 => mb xq { de with nx := fun s2 n2 => sForL g mb xq de ds s2 n2, ct := fun s2 n2 => sForL g mb xq de ds s2 n2, bk := de.nx } s1 n
def sFor (mi : EM (List D)) (g : DG) (mb : SM) : SM := fun xq de s n => mi xq s n fun ds n1 => sForL g mb xq de ds s n1
theorem LX.base {K : PySem.W.Frag} {aS : Addr} {A0 : AS} {H0 Hb : Hp} {xq : XQ} (L : LX K E aS A0 H0 xq) (h : KpS aS H0 Hb) : LX K E aS A0 Hb xq := fun C fs n d H' k st r q => by
  refine L C fs n d H' (h.trans k) st ?_ q
  cases d with
  | none => exact r
  | some a =>
    obtain ⟨ys, e1, e2, e3⟩ := r
    refine ⟨ys, Option.eq_none_iff_forall_ne_some.mpr fun u z => ?_, e2, e3⟩
    obtain ⟨xs, es⟩ := st.lst
    have na : a ≠ aS := fun z => by rw [z, es] at e2; cases e2
    exact KpS.gone h e1 z na
theorem LK.base {K : PySem.W.Frag} {aS : Addr} {A0 : A0T} {H0 Hb : Hp} {de : DE} {De : Ends} (k : LK K aS O OL A0 H0 de De) (h : KpS aS H0 Hb) : LK K aS O OL A0 Hb de De :=
  ⟨fun σ H s n S q => k.nx σ H s n (S.back h) q, fun v H d n kp st r q => k.rt v H d n (h.trans kp) st r q, fun σ H s n S q => k.bk σ H s n (S.back h) q, fun σ H s n S q => k.ct σ H s n (S.back h) q⟩
theorem drop_get {α : Type} {l : List α} {i : Nat} {x : α} (h : l[i]? = some x) : l.drop i = x :: l.drop (i + 1) := by
  obtain ⟨h1, h2⟩ := List.getElem?_eq_some_iff.mp h
  exact h2 ▸ List.drop_eq_getElem_cons h1
theorem vs_for {iter : Expr} {body : List Stmt} (hp : PassesOwn (model X.prog X.w) X.A X.env X.xe) (hc : X.calm = true) (hi : VIs X E O tg iter mi) (hg : VG X O vs tg g) (hb : VSs X E O O O body mb)
    (hs : ∀ x, foldedSetIterable iter X.env x = pure x := by intro _; rfl) : VS X E O O OL (.For tg iter body [] pos) (sFor mi g mb) := by
  obtain ⟨mn, wi, pi, fi⟩ := hi
  obtain ⟨_, gt, pg, fg⟩ := hg
  obtain ⟨tb, pb, fb⟩ := hb
  refine ⟨_, ps_for hp hc pi pg pb hs, fun aS A0 H0 σ H s n xq de De S L k h => ?_⟩
  refine fi aS A0 H0 σ H s n xq _ S L (mn _ _ _ _ _ (fun ds n1 q J H1 kp st it => ?_) h)
  have S1 := S.step kp st
  have le := S1.le
  have hF : ∀ {σ' H' s' n'}, SR X.K aS O A0 (bare O σ H1) σ' H' s' n' → Far aS A0 (bare O σ H1) (AV aS A0 O σ') := fun {σ' H' s' n'} S' => ⟨AV.st, fun b z => by
    rcases z with z | z | ⟨j, hj, e⟩
    · exact .inl z
    · exact .inr (.inl z)
    · obtain ⟨d, b', e1, e2, e3, _⟩ := S'.ow j hj
      rw [e] at e2
      cases e2
      exact .inr (.inr e3)⟩
  obtain ⟨G, Y, w, hG, hY⟩ := it
  refine for_it w (fun i σ' H' => ∃ s' n', SR X.K aS O A0 (bare O σ H1) σ' H' s' n' ∧ sForL g mb xq de (ds.drop i) s' n') ⟨s, n1, S1.base, q⟩ (fun i σ' H' _ z => ?_) (fun i x σ' H' H2 hi z y => ?_) (fun σ' H' z => ?_)
  · obtain ⟨s', n', S', _⟩ := z
    exact hG H' S'.fr
  · obtain ⟨s', n', S', q'⟩ := z
    obtain ⟨k2, d, ed, rd⟩ := hY i H' x H2 n' _ hi S'.fr S'.st (hF S') y
    rw [drop_get ed] at q'
    have S2 := S'.step (KpS.all k2.1) (S'.st.kp k2)
    refine fg aS A0 _ σ' H2 s' n' d x _ _ S2 rd q' fun σ3 s3 S3 _ _ a3 q3 => ?_
    exact fb aS A0 _ σ3 H2 s3 n' xq { de with nx := fun s2 n2 => sForL g mb xq de (ds.drop (i + 1)) s2 n2, ct := fun s2 n2 => sForL g mb xq de (ds.drop (i + 1)) s2 n2, bk := de.nx } _ S3 (L.base le) ⟨fun σ4 H4 s4 n4 S4 q4 => ⟨s4, n4, S4, q4⟩, (k.base le).rt, fun σ4 H4 s4 n4 S4 q4 => k.nx σ4 H4 s4 n4 (S4.back le) q4, fun σ4 H4 s4 n4 S4 q4 => ⟨s4, n4, S4, q4⟩⟩ q3
  · obtain ⟨s', n', S', q'⟩ := z
    rw [List.drop_length] at q'
    exact k.nx σ' H' s' n' (S'.back le) q'
/-! ### while -/
def sWhileN (mt : EM Bool) (mb : SM) (xq : XQ) (de : DE) : Nat → Ev → Nat → Prop
  | 0, _, _ => False
  | k + 1, s, n => mt xq s n fun c n1 => if c = true then mb xq { de with nx := fun s2 n2 => sWhileN mt mb xq de k s2 n2, ct := fun s2 n2 => sWhileN mt mb xq de k s2 n2, bk := de.nx } s n1 else de.nx s n1
def sWhile (mt : EM Bool) (mb : SM) : SM := fun xq de s n => ∃ k, sWhileN mt mb xq de k s n
theorem vs_while {c : Expr} {body : List Stmt} (hp : PassesOwn (model X.prog X.w) X.A X.env X.xe) (hc : VT X E O c mt) (hb : VSs X E O O O body mb) : VS X E O O OL (.While c body [] pos) (sWhile mt mb) := by
  obtain ⟨mn, tc, pc, fc⟩ := hc
  obtain ⟨tb, pb, fb⟩ := hb
  refine ⟨_, ps_while hp pc pb, fun aS A0 H0 σ H s n xq de De S L k h => ?_⟩
  obtain ⟨j, h⟩ := h
  refine ⟨fun j σ' H' => ∃ s' n', SR X.K aS O A0 H0 σ' H' s' n' ∧ sWhileN mt mb xq de j s' n', ⟨j, s, n, S, h⟩, fun j σ' H' w => ?_⟩
  obtain ⟨s', n', S', w⟩ := w
  cases j with
  | zero => exact w.elim
  | succ j =>
    refine fc aS A0 H0 σ' H' s' n' xq _ S' L (mn _ _ _ _ _ (fun b n1 q H1 k1 st1 => ?_) w)
    cases b with
    | true =>
      rw [if_pos rfl]
      refine ⟨fun σ2 H2 => ∃ s2 n2, SR X.K aS O A0 H0 σ2 H2 s2 n2 ∧ sWhileN mt mb xq de j s2 n2, fun σ2 H2 z => ⟨j, Nat.lt_succ_self j, z⟩, ?_⟩
      exact fb aS A0 H0 σ' H1 s' n1 xq { de with nx := fun s2 n2 => sWhileN mt mb xq de j s2 n2, ct := fun s2 n2 => sWhileN mt mb xq de j s2 n2, bk := de.nx } _ (S'.step k1 st1) L
        ⟨fun σ4 H4 s4 n4 S4 q4 => ⟨s4, n4, S4, q4⟩, k.rt, fun σ4 H4 s4 n4 S4 q4 => k.nx σ4 H4 s4 n4 S4 q4, fun σ4 H4 s4 n4 S4 q4 => ⟨s4, n4, S4, q4⟩⟩ q
    | false =>
      rw [if_neg (by decide)]
      exact k.nx σ' H1 s' n1 (S'.step k1 st1) q
/-! ### comprehensions -/
def sLcL (g : DG) (mt : EM Bool) (me : EM D) (xq : XQ) (s0 : Ev) : List D → Nat → List D → (List D → Nat → Prop) → Prop
  | [], n, acc, Q => Q acc n
  | d :: ds, n, acc, Q => g d s0 fun s1 => mt xq s1 n fun c n1 => if c = true then me xq s1 n1 fun x n2 => sLcL g mt me xq s0 ds n2 (acc ++ [x]) Q else sLcL g mt me xq s0 ds n1 acc Q
def eLc (mi : EM (List D)) (hs : List Nat) (g : DG) (mt : EM Bool) (me : EM D) : EM D := fun xq s n Q => mi xq s n fun ds n1 => ds.length ≤ LIM ∧ sLcL g mt me (fun _ _ => False) (hideL s hs) ds n1 [] fun xs n2 => Q (.lst xs) n2
def tYesD : EM Bool := fun _ _ n Q => Q true n
/-- the tests of a clause -/
def VTs (X : Cx) (E : XK) (O : List Nat) (ifs : List Expr) (m : EM Bool) : Prop := Mn m ∧ ∃ t, PTs X ifs t ∧ ∀ (aS : Addr) (A0 : A0T) (H0 : Hp) (σ : L2.St) (H : Hp) (s : Ev) (n : Nat) (xq : XQ) (Q : Bool → Hp → Prop), SR X.K aS O A0 H0 σ H s n → LX X.K E aS A0 H0 xq →
  m xq s n (fun b n' => ∀ H', KpS aS H H' → StA X.K aS H' n' → Q b H') → t σ H Q
theorem vts_nil : VTs X E O [] tYesD := ⟨fun _ _ _ _ _ hq h => hq _ _ h, _, pts_nil, fun aS A0 H0 σ H s n xq Q S L hm => hm H KpS.refl S.st⟩
theorem vts_one {c : Expr} (h : VT X E O c mt) : VTs X E O [c] mt := by
  obtain ⟨mn, t, p, f⟩ := h
  exact ⟨mn, t, pts_one p, f⟩
end
end DL
namespace DL
open PySem PySem.Spec PyProof.Rows L2
variable [TabC]
section
variable {K : PySem.W.Frag} {aS a p : Addr} {H H' H0 H1 Hb : Hp} {A : AS} {A0 : A0T} {O OB : List Nat} {σ : L2.St} {s : Ev} {n i : Nat}
theorem SR.hide2 (S : SR K aS O A0 H0 σ H s n) (hi : i ∉ O) : SR K aS O A0 H0 (σ.set i none) H (s.set i none) n where
  len := by rw [List.length_set, List.length_set]; exact S.len
  sh := fun j d e hj => by
    rw [AV.set hi]
    by_cases hji : j = i
    · subst hji
      have hl : j < s.length := by
        have := (List.getElem?_eq_some_iff.mp e).1
        rwa [List.length_set] at this
      rw [List.getElem?_set_self hl] at e
      cases e
    · rw [set_other hji] at e ⊢
      exact S.sh j d e hj
  ow := fun j hj => by
    have hji : j ≠ i := fun z => hi (z ▸ hj)
    rw [AV.set hi, set_other hji, set_other hji]
    exact S.ow j hj
  ds := fun j k b hj hk e1 e2 => by
    rw [set_other (show j ≠ i from fun z => hi (z ▸ hj))] at e1
    rw [set_other (show k ≠ i from fun z => hi (z ▸ hk))] at e2
    exact S.ds j k b hj hk e1 e2
  fr := S.fr
  st := S.st
  av := S.av
  pn := fun h a e => by
    rw [set_other (show 0 ≠ i from fun z => hi (z ▸ h))]
    exact S.pn h a e
theorem SR.wipe : ∀ {vs : List Nat}, (∀ j ∈ vs, j ∉ O) → SR K aS O A0 H0 σ H s n → SR K aS O A0 H0 (L2.wipe σ vs) H (hideL s vs) n
  | [], _, S => S
  | v :: vs, h, S => (SR.wipe (vs := vs) (fun j hj => h j (List.mem_cons_of_mem _ hj)) S).hide2 (h v List.mem_cons_self)
theorem AV.wipe {A0 : AS} : ∀ {vs : List Nat}, (∀ j ∈ vs, j ∉ O) → AV aS A0 O (L2.wipe σ vs) = AV aS A0 O σ
  | [], _ => rfl
  | v :: vs, h => (AV.set (h v List.mem_cons_self)).trans (AV.wipe (vs := vs) fun j hj => h j (List.mem_cons_of_mem _ hj))
theorem hideL_append (s : Ev) : ∀ vs hs : List Nat, hideL s (vs ++ hs) = hideL (hideL s hs) vs
  | [], _ => rfl
  | v :: vs, hs => by rw [List.cons_append, hideL, hideL, hideL_append s vs hs]
theorem wipe_out : ∀ {vs : List Nat} {j : Nat}, j ∉ vs → (L2.wipe σ vs)[j]? = σ[j]?
  | [], _, _ => rfl
  | v :: vs, j, h => by
    rw [L2.wipe, set_other (show j ≠ v from fun z => h (z ▸ List.mem_cons_self))]
    exact wipe_out fun z => h (List.mem_cons_of_mem _ z)
theorem wipe_in : ∀ {vs : List Nat} {j : Nat}, j ∈ vs → j < σ.length → (L2.wipe σ vs)[j]? = some none
  | v :: vs, j, h, hl => by
    rw [L2.wipe]
    by_cases z : j = v
    · rw [z]
      exact List.getElem?_set_self (by rw [wipe_length, ← z]; exact hl)
    · rw [set_other z]
      exact wipe_in ((List.mem_cons.mp h).resolve_left z) hl
theorem wipe_eq {σ2 : L2.St} {vs : List Nat} (hl : σ2.length = σ.length) (h : ∀ j, j ∉ vs → σ2[j]? = σ[j]?) : L2.wipe σ2 vs = L2.wipe σ vs := by
  apply List.ext_getElem?
  intro j
  by_cases hj : j ∈ vs
  · by_cases hlt : j < σ.length
    · rw [wipe_in hj hlt, wipe_in hj (by rw [hl]; exact hlt)]
    · rw [List.getElem?_eq_none (by rw [wipe_length, hl]; omega), List.getElem?_eq_none (by rw [wipe_length]; omega)]
  · rw [wipe_out hj, wipe_out hj]
    exact h j hj
theorem AV.plus {A0 : AS} : AV aS (fun b => A0 b ∨ b = p) O σ = fun b => AV aS A0 O σ b ∨ b = p := by
  funext b
  unfold AV
  refine propext ⟨fun z => ?_, fun z => ?_⟩
  · rcases z with (z | z) | z | z
    · exact .inl (.inl z)
    · exact .inr z
    · exact .inl (.inr (.inl z))
    · exact .inl (.inr (.inr z))
  · rcases z with (z | z | z) | z
    · exact .inl (.inl z)
    · exact .inr (.inl z)
    · exact .inr (.inr z)
    · exact .inl (.inr z)
/-- a new object that is kept for oneself -/
theorem SR.laidA {o : HO} (S : SR K aS O A0 H0 σ H s n) (hp : H p = none) (ho : ∀ ps, o ≠ .tbl ps := by intro _ z; cases z) : SR K aS O ⟨fun b => A0 b ∨ b = p, A0.z⟩ H0 σ (upd H p o) s n := by
  have up : ∀ b u, H b = some u → upd H p o b = some u := fun b u e => by rw [upd_ne (ne_of_none e hp)]; exact e
  refine ⟨S.len, fun j d e hj => ?_, fun j hj => ?_, S.ds, S.fr.trans (KpS.upd hp), S.st.upd hp ho, fun b hb => ?_, S.pn⟩
  · rw [AV.plus]
    obtain ⟨v, ev, r⟩ := S.sh j d e hj
    exact ⟨v, ev, Rep.mono (sub_new hp) _ _ r⟩
  · rw [AV.plus]
    obtain ⟨d, b, e1, e2, e3, e4, e5, e6⟩ := S.ow j hj
    refine ⟨d, b, e1, e2, e3, fun z => z.elim e4 fun z => S.new hp (.inr (.inr ⟨j, hj, z ▸ e2⟩)), e5, ?_⟩
    cases d with
    | lst ds => obtain ⟨xs, e, q⟩ := e6; exact ⟨xs, up _ _ e, RepL.mono (sub_new hp) _ _ q⟩
    | dic ds => obtain ⟨xs, e, q⟩ := e6; exact ⟨xs, up _ _ e, RepK.mono (sub_new hp) _ _ q⟩
    | obj C ds => obtain ⟨dx, xs, e, q⟩ := e6; exact ⟨dx, xs, up _ _ e, RepF.mono (sub_new hp) _ _ q⟩
    | _ => exact e6.elim
  · rcases hb with hb | hb
    · obtain ⟨u, e⟩ := S.av b hb
      exact ⟨u, up _ _ e⟩
    · exact ⟨o, by rw [hb]; exact upd_same⟩
/-- what is kept for oneself is changed -/
theorem sub_poke {o o' : HO} (hA : A p) (ho : H p = some o) (hk : ∀ xs, o ≠ .tup xs) : Sub K H (upd H p o') A A := by
  have ne : ∀ b, ¬ A b → b ≠ p := fun b h z => h (z ▸ hA)
  have up : ∀ b u, H b = some u → b ≠ p → upd H p o' b = some u := fun b u q z => by rw [upd_ne z]; exact q
  refine ⟨fun b xs h q => ⟨h, up _ _ q (ne b h)⟩, fun b xs q => q.elim (fun q => .inl (up _ _ q fun z => ?_)) .inr, fun b ys h q => ⟨h, ?_⟩, fun b C dx ys h q => ⟨h, up _ _ q (ne b h)⟩⟩
  · have q : H b = _ := q
    rw [z, ho] at q
    cases q
    exact hk _ rfl
  · rcases q with q | ⟨z, q⟩
    · exact .inl (up _ _ q (ne b h))
    · exact .inr ⟨z, up _ _ q (ne b h)⟩
theorem SR.poke {o o' : HO} (S : SR K aS O A0 H0 σ H s n) (hA : A0 p) (hs : p ≠ aS) (ho : H p = some o) (h0 : H0 p = none) (hk : ∀ xs, o ≠ .tup xs) (hf : ∀ ob u, o ≠ .frz ob u) (ht : ∀ ps, o ≠ .tbl ps := by intro _ z; cases z) (hx : ∀ f, o ≠ .ext f := by intro _ z; cases z) (ht' : ∀ ps, o' ≠ .tbl ps := by intro _ z; cases z) : SR K aS O A0 H0 σ (upd H p o') s n := by
  have hAV : AV aS A0 O σ p := .inl hA
  have up : ∀ b u, H b = some u → b ≠ p → upd H p o' b = some u := fun b u q z => by rw [upd_ne z]; exact q
  have sub : Sub K H (upd H p o') (AV aS A0 O σ) (AV aS A0 O σ) := sub_poke hAV ho hk
  refine ⟨S.len, fun j d ej hj => ?_, fun j hj => ?_, S.ds, fun b u q z => (S.fr b u q z).trans fun v e' => .of (up _ _ e' (fun z => by rw [z, h0] at q; cases q)), ?_, fun b hb => ?_, S.pn⟩
  · obtain ⟨v, q1, r⟩ := S.sh j d ej hj
    exact ⟨v, q1, Rep.mono sub _ _ r⟩
  · obtain ⟨d, b, q1, q2, q3, q4, q5, q6⟩ := S.ow j hj
    have hb : b ≠ p := fun z => q4 (z ▸ hA)
    refine ⟨d, b, q1, q2, q3, q4, q5, ?_⟩
    cases d with
    | lst ds => obtain ⟨xs, e, q⟩ := q6; exact ⟨xs, up _ _ e hb, RepL.mono sub _ _ q⟩
    | dic ds => obtain ⟨xs, e, q⟩ := q6; exact ⟨xs, up _ _ e hb, RepK.mono sub _ _ q⟩
    | obj C ds => obtain ⟨dx, xs, e, q⟩ := q6; exact ⟨dx, xs, up _ _ e hb, RepF.mono sub _ _ q⟩
    | _ => exact q6.elim
  · obtain ⟨a0, cs, i', g, m, d', z1, z2, ⟨ob, z3⟩, z4, z5, z6, z7, z8, z9, zt⟩ := S.st
    refine ⟨a0, cs, i', g, m, d', up _ _ z1 (Ne.symm hs), z2, ⟨ob, up _ _ z3 fun z => ?_⟩, z4, z5, z6, z7, z8, z9, tabs_poke zt ho ht hx ht'⟩
    rw [z, ho] at z3
    cases z3
    exact hf _ _ rfl
  · by_cases z : b = p
    · rw [z, upd_same]
      exact ⟨_, rfl⟩
    · obtain ⟨u, q⟩ := S.av b hb
      exact ⟨u, up _ _ q z⟩
end
/-! a reading for all blocks at once -/
abbrev Bk := Shared × Hp × Addr × List (Str × Addr) × List Addr
abbrev Cx.bk (X : Cx) (scope : Scope) (c : Bk) : Cx := X.blk c.1 c.2.1 scope (compEnvC scope c.2.2.2.1 c.2.2.1 X.env) c.2.2.2.2
section
variable {X : Cx} {E : XK} {O OB vs hid : List Nat} {tg e iter : Expr} {ifs : List Expr} {m me : EM D} {mi : EM (List D)} {mt : EM Bool} {g : DG} {scope : Scope} {pos : Pos}
theorem VX.all {R : RK} (h : ∀ c : Bk, VX R (Cx.bk X scope c) E O e m) : ∃ t, (∀ c : Bk, PE (Cx.bk X scope c) e t) ∧ ∀ (aS : Addr) (A0 : A0T) (H0 : Hp) (σ : L2.St) (H : Hp) (s : Ev) (n : Nat) (xq : XQ) (Q : VK), SR X.K aS O A0 H0 σ H s n → LX X.K E aS A0 H0 xq →
    m xq s n (fun d n' => ∀ v H', KpS aS H H' → StA X.K aS H' n' → R X.K aS H' (AV aS A0 O σ) d v → Q v H') → t σ H Q := by
  have h2 := fun c => (h c).2
  refine ⟨fun σ H Q => ∀ c, Classical.choose (h2 c) σ H Q, fun c => ⟨fun pins s σ H Q I q => (Classical.choose_spec (h2 c)).1.run pins s σ H Q I (q c)⟩, fun aS A0 H0 σ H s n xq Q S L hm c => (Classical.choose_spec (h2 c)).2 aS A0 H0 σ H s n xq Q S L hm⟩
theorem VTs.all (h : ∀ c : Bk, VTs (Cx.bk X scope c) E O ifs mt) : ∃ t, (∀ c : Bk, PTs (Cx.bk X scope c) ifs t) ∧ ∀ (aS : Addr) (A0 : A0T) (H0 : Hp) (σ : L2.St) (H : Hp) (s : Ev) (n : Nat) (xq : XQ) (Q : Bool → Hp → Prop), SR X.K aS O A0 H0 σ H s n → LX X.K E aS A0 H0 xq →
    mt xq s n (fun b n' => ∀ H', KpS aS H H' → StA X.K aS H' n' → Q b H') → t σ H Q := by
  have h2 := fun c => (h c).2
  refine ⟨fun σ H Q => ∀ c, Classical.choose (h2 c) σ H Q, fun c => ⟨fun pins s σ H Q I q => (Classical.choose_spec (h2 c)).1.run pins s σ H Q I (q c)⟩, fun aS A0 H0 σ H s n xq Q S L hm c => (Classical.choose_spec (h2 c)).2 aS A0 H0 σ H s n xq Q S L hm⟩
theorem VG.all (h : ∀ c : Bk, VG (Cx.bk X scope c) O vs tg g) : ∃ gt, (∀ c : Bk, PG (Cx.bk X scope c) tg gt) ∧ ∀ (aS : Addr) (A0 : A0T) (H0 : Hp) (σ : L2.St) (H : Hp) (s : Ev) (n : Nat) (d : D) (v : V) (Q : Ev → Prop) (QH : L2.St → Hp → Prop), SR X.K aS O A0 H0 σ H s n → Rep X.K aS H (AV aS A0 O σ) d v → g d s Q →
    (∀ σ' s', SR X.K aS O A0 H0 σ' H s' n → σ'.length = σ.length → (∀ j, j ∉ vs → σ'[j]? = σ[j]?) → AV aS A0 O σ' = AV aS A0 O σ → Q s' → QH σ' H) → gt v σ H QH := by
  have h2 := fun c => (h c).2
  refine ⟨fun v σ H Q => ∀ c, Classical.choose (h2 c) v σ H Q, fun c => ⟨fun pins s σ H v u Q I r q => (Classical.choose_spec (h2 c)).1.run pins s σ H v u Q I r (q c)⟩, fun aS A0 H0 σ H s n d v Q QH S r hm k c => (Classical.choose_spec (h2 c)).2 aS A0 H0 σ H s n d v Q QH S r hm k⟩
def bk0 : Bk := ({}, fun _ => none, 0, [], [])
theorem mn_lcL (h1 : Mn mt) (h2 : Mn me) (h3 : ∀ d s Q Q', (∀ s', Q s' → Q' s') → g d s Q → g d s Q') {xq : XQ} {s0 : Ev} : ∀ (ds : List D) (n : Nat) (acc : List D) (Q Q' : List D → Nat → Prop), (∀ x n, Q x n → Q' x n) → sLcL g mt me xq s0 ds n acc Q → sLcL g mt me xq s0 ds n acc Q'
  | [], n, acc, Q, Q', hq, h => hq _ _ h
  | d :: ds, n, acc, Q, Q', hq, h => h3 _ _ _ _ (fun s1 h => h1 _ _ _ _ _ (fun c n1 h => by
      cases c with
      | true => exact h2 _ _ _ _ _ (fun x n2 h => mn_lcL h1 h2 h3 ds n2 _ Q Q' hq h) h
      | false => exact mn_lcL h1 h2 h3 ds n1 _ Q Q' hq h) h) h
theorem vf_lcAt {own : List (Str × Nat)} {ws : List Nat} (hc : X.calm = true) (hN : X.N.Nodup) (hi : VI X E O OB hid tg iter mi) (ok : BlkOk X.N X.env.scope scope own) (hown : ∀ j ∈ own.map (·.2), j ∉ OB) (hws : ∀ j ∈ ws, j ∈ own.map (·.2))
    (hg : ∀ c : Bk, VG (Cx.bk X scope c) OB ws tg g) (ht : ∀ c : Bk, VTs (Cx.bk X scope c) EF OB ifs mt) (he : ∀ c : Bk, VE (Cx.bk X scope c) EF OB e me) :
    Mn (eLc mi (own.map (·.2) ++ hid) g mt me) ∧ ∃ wi gt tt te, PI X tg iter wi ∧ (∀ c : Bk, PG (Cx.bk X scope c) tg gt) ∧ (∀ c : Bk, PTs (Cx.bk X scope c) ifs tt) ∧ (∀ c : Bk, PE (Cx.bk X scope c) e te) ∧
      ∀ (aS : Addr) (A0 : A0T) (H0 : Hp) (σ : L2.St) (H : Hp) (s : Ev) (n : Nat) (xq : XQ) (Q : VK), SR X.K aS O A0 H0 σ H s n → LX X.K E aS A0 H0 xq →
      eLc mi (own.map (·.2) ++ hid) g mt me xq s n (fun d n' => ∀ a H', H a = none → KpS aS H H' → StA X.K aS H' n' → Own X.K aS H' (fun b => AV aS A0 O σ b ∨ b = a) a d → Q (.ref a) H') → tLc wi gt tt te (own.map (·.2)) σ H Q := by
  have mnt := (ht bk0).1
  have mne := (he bk0).1
  have mng := (hg bk0).1
  obtain ⟨mni, wi, pi, fi⟩ := hi
  obtain ⟨gt, pg, fg⟩ := VG.all hg
  obtain ⟨tt, pt, ft⟩ := VTs.all ht
  obtain ⟨te, pe, fe⟩ := VX.all he
  refine ⟨fun xq s n Q Q' hq h => mni _ _ _ _ _ (fun ds n1 h => ⟨h.1, mn_lcL mnt mne mng _ _ _ _ _ (fun x n2 => hq _ _) h.2⟩) h, wi, gt, tt, te, pi, pg, pt, pe, fun aS A0 H0 σ H s n xq Q S L hm => ?_⟩
  have LF : ∀ A1, LX X.K EF aS A1 H0 (fun _ _ => False) := fun _ _ _ _ _ _ _ _ _ z => z.elim
  refine fi aS A0 H0 σ H s n xq _ S L (mni _ _ _ _ _ (fun ds n1 q J H1 A1 kp st eA S1 it => ?_) hm)
  obtain ⟨hlim, q⟩ := q
  intro Dn hD
  obtain ⟨G, Y, w, hG, hY⟩ := it
  have hDs : Dn ≠ aS := fun z => by
    obtain ⟨xs, e⟩ := st.lst
    rw [z, e] at hD
    cases hD
  have hD0 : H0 Dn = none := Option.eq_none_iff_forall_ne_some.mpr fun u z => by
    exact (KpS.gone S1.fr hD z (hDs)).elim
  have hDH : H Dn = none := Option.eq_none_iff_forall_ne_some.mpr fun u z => by
    exact (KpS.gone kp hD z (hDs)).elim
  have S2 : SR X.K aS OB ⟨fun b => A1 b ∨ b = Dn, A1.z⟩ H0 (L2.wipe σ (own.map (·.2))) (upd H1 Dn (.lst [])) (hideL s (own.map (·.2) ++ hid)) n1 := by
    rw [hideL_append]
    exact (SR.wipe hown S1).laidA hD
  have hFar : ∀ {σ'}, AV aS (fun b => A1 b ∨ b = Dn) OB σ' = AV aS (fun b => A1 b ∨ b = Dn) OB σ → Far aS A1 (bare OB σ H1) (AV aS (fun b => A1 b ∨ b = Dn) OB σ') := fun {σ'} e => by
    rw [e]
    refine ⟨AV.st, fun b z => ?_⟩
    rcases z with (z | z) | z | z
    · exact .inl z
    · refine .inr (.inr ?_)
      by_cases y : ∃ i, i ∈ OB ∧ σ[i]? = some (some (.ref b))
      · exact bare_own y
      · rw [bare_not y, z]; exact hD
    · exact .inr (.inl z)
    · exact .inr (.inr (bare_own z))
  have eW : AV aS (fun b => A1 b ∨ b = Dn) OB (L2.wipe σ (own.map (·.2))) = AV aS (fun b => A1 b ∨ b = Dn) OB σ := AV.wipe hown
  have kb : ∀ {H'}, KpS aS H1 H' → KpS aS (bare OB σ H1) H' := fun {H'} k b u e z => k b u (bare_some e) z
  refine lc_it w (fun i H' => ∃ n' acc xs, SR X.K aS OB ⟨fun b => A1 b ∨ b = Dn, A1.z⟩ H0 (L2.wipe σ (own.map (·.2))) H' (hideL s (own.map (·.2) ++ hid)) n' ∧ KpS aS H1 H' ∧ H' Dn = some (.lst xs) ∧ RepL X.K aS H' (AV aS (fun b => A1 b ∨ b = Dn) OB σ) acc xs ∧ acc.length ≤ i ∧
      sLcL g mt me (fun _ _ => False) (hideL s (own.map (·.2) ++ hid)) (ds.drop i) n' acc (fun xs n2 => ∀ a H', H a = none → KpS aS H H' → StA X.K aS H' n2 → Own X.K aS H' (fun b => AV aS A0 O σ b ∨ b = a) a (.lst xs) → Q (.ref a) H'))
    ⟨n1, [], [], S2, KpS.upd hD, upd_same, RepL.nil, Nat.zero_le _, q⟩ (fun i H' _ z => ?_) (fun i x H' H2 hi z y => ?_) (fun H' z => ?_)
  · obtain ⟨n', acc, xs, _, k1, _⟩ := z
    exact hG H' (kb k1)
  · obtain ⟨n', acc, xs, S', k1, hd, rl, hl, q'⟩ := z
    obtain ⟨k2, d, ed, rd⟩ := hY i H' x H2 n' _ hi (kb k1) S'.st (hFar eW) y
    rw [drop_get ed] at q'
    have S3 := S'.step (KpS.all k2.1) (S'.st.kp k2)
    refine fg aS _ H0 _ H2 _ n' d x _ _ S3 rd q' fun σ3 s3 S4 l3 o3 a3 q3 => ?_
    refine ⟨?_, ft aS _ H0 σ3 H2 s3 n' (fun _ _ => False) _ S4 (LF _) (mnt _ _ _ _ _ (fun c n2 q4 H3 k3 st3 => ?_) q3)⟩
    · have e1 := wipe_eq (vs := own.map (·.2)) l3 fun j hj => o3 j fun z => hj (hws j z)
      rw [e1]
      exact wipe_eq (wipe_length _ _) fun j hj => wipe_out hj
    · have kk : KpS aS H' H3 := (KpS.all k2.1).trans k3
      cases c with
      | true =>
        rw [if_pos rfl] at q4 ⊢
        refine fe aS _ H0 σ3 H3 s3 n2 (fun _ _ => False) _ (S4.step k3 st3) (LF _) (mne _ _ _ _ _ (fun y n3 q5 v H4 k4 st4 r4 => ?_) q4)
        have k5 := kk.trans k4
        refine ⟨xs, k5.lst hd hDs, ?_, n3, acc ++ [y], xs ++ [v], ?_, KpS.upd2 (k1.trans k5) hD, upd_same, ?_, by rw [List.length_append]; exact Nat.succ_le_succ hl, q5⟩
        · rw [rl.length]
          exact Nat.lt_of_le_of_lt hl (lim_lt (Nat.lt_of_lt_of_le hi hlim))
        · exact (S'.step k5 st4).poke (.inr rfl) hDs (k5.lst hd hDs) hD0 (fun _ z => nomatch z) (fun _ _ z => nomatch z)
        · have e2 : AV aS (fun b => A1 b ∨ b = Dn) OB σ3 = AV aS (fun b => A1 b ∨ b = Dn) OB σ := a3.trans eW
          rw [e2] at r4
          exact RepL.mono (sub_poke (A := AV aS (fun b => A1 b ∨ b = Dn) OB σ) (.inl (.inr rfl)) (k5.lst hd hDs) (fun _ z => nomatch z)) _ _ ((rl.kp k5 S'.st AV.st).app (RepL.cons r4 RepL.nil))
      | false =>
        rw [if_neg (by decide)] at q4 ⊢
        exact ⟨n2, acc, xs, S'.step kk st3, k1.trans kk, kk.lst hd hDs, rl.kp kk S'.st AV.st, Nat.le_succ_of_le hl, q4⟩
  · obtain ⟨n', acc, xs, S', k1, hd, rl, hl, q'⟩ := z
    rw [List.drop_length] at q'
    refine q' Dn H' hDH (kp.trans k1) S'.st ⟨xs, hd, ?_⟩
    rw [AV.plus, eA] at rl
    exact rl
theorem vf_lc {own : List (Str × Nat)} {ws : List Nat} (hc : X.calm = true) (hN : X.N.Nodup) (hi : VI X E O OB hid tg iter mi) (ok : BlkOk X.N X.env.scope scope own) (hown : ∀ j ∈ own.map (·.2), j ∉ OB) (hws : ∀ j ∈ ws, j ∈ own.map (·.2))
    (hg : ∀ c : Bk, VG (Cx.bk X scope c) OB ws tg g) (ht : ∀ c : Bk, VTs (Cx.bk X scope c) EF OB ifs mt) (he : ∀ c : Bk, VE (Cx.bk X scope c) EF OB e me) (hs : ∀ x, foldedSetIterable iter X.env x = pure x := by intro _; rfl) :
    VF X E O (.ListComp e [⟨tg, iter, ifs, 0⟩] scope pos) (eLc mi (own.map (·.2) ++ hid) g mt me) := by
  obtain ⟨mn, wi, gt, tt, te, pi, pg, pt, pe, f⟩ := vf_lcAt hc hN hi ok hown hws hg ht he
  refine ⟨mn, _, pe_lc hc hN pi ok (fun s H C cl fp => pg (s, H, C, cl, fp)) (fun s H C cl fp => pt (s, H, C, cl, fp)) (fun s H C cl fp => pe (s, H, C, cl, fp)) hs, fun aS A0 H0 σ H s n xq Q S L hm => f aS A0 H0 σ H s n xq Q S L hm⟩
/-- name = [..]: the name owns the new list -/
theorem vs_setLc {own : List (Str × Nat)} {ws : List Nat} {i : Nat} {y : Str} {py spos : Pos} {OL : List Nat} (hiO : i ∉ O) (hi0 : i ≠ 0) (hc : X.calm = true) (hN : X.N.Nodup) (hy : X.N[i]? = some y) (hyl : X.env.scope.names.lookup y = some .local)
    (hsw : swapsWith (.ListComp e [⟨tg, iter, ifs, 0⟩] scope pos) (some (.Name y py)) spos.line X.env = pure true) (hi : VI X E O OB hid tg iter mi) (ok : BlkOk X.N X.env.scope scope own) (hown : ∀ j ∈ own.map (·.2), j ∉ OB) (hws : ∀ j ∈ ws, j ∈ own.map (·.2))
    (hg : ∀ c : Bk, VG (Cx.bk X scope c) OB ws tg g) (ht : ∀ c : Bk, VTs (Cx.bk X scope c) EF OB ifs mt) (he : ∀ c : Bk, VE (Cx.bk X scope c) EF OB e me) (hs : ∀ x, foldedSetIterable iter X.env x = pure x := by intro _; rfl) :
    VS X E O (i :: O) OL (.Assign [.Name y py] (.ListComp e [⟨tg, iter, ifs, 0⟩] scope pos) spos) (fun xq de s n => i < s.length ∧ sSet i (eLc mi (own.map (·.2) ++ hid) g mt me) xq de s n) := by
  obtain ⟨mn, wi, gt, tt, te, pi, pg, pt, pe, f⟩ := vf_lcAt hc hN hi ok hown hws hg ht he
  refine ⟨_, ps_setLc hc hN hy hyl hsw pi ok (fun s H C cl fp => pg (s, H, C, cl, fp)) (fun s H C cl fp => pt (s, H, C, cl, fp)) (fun s H C cl fp => pe (s, H, C, cl, fp)) hs, fun aS A0 H0 σ H s n xq de De S L k h => ?_⟩
  exact f aS A0 H0 σ H s n xq _ S L (mn _ _ _ _ _ (fun d n' q a H' ha kp st o => k.nx _ H' _ n' (S.own hiO hi0 h.1 ha kp st o) q) h.2)
end
end DL
namespace DL
open PySem PySem.Spec PyProof.Rows L2
variable [TabC]
/-! ### what leaves by an error -/
/-- what is raised with the wish E is taken -/
def TK (X : Cx) (E : XK) : Prop := Takes X (fun c d _ H => E c d H)
/-- locks (none of them the entry's) are let go -/
inductive Unl (H0 : Hp) : Hp → Hp → Prop
  | refl (H : Hp) : Unl H0 H H
  | step {H H2 : Hp} {b : Addr} {od : Obj} {u : HO} : H b = some (.frz od u) → (∀ o' u', H0 b ≠ some (.frz o' u')) → Unl H0 (upd H b u) H2 → Unl H0 H H2
def EU (H0 : Hp) (E : XK) : XK := fun c d H => ∃ H2, Unl H0 H H2 ∧ E c d H2
def UC (X : Cx) (E : XK) : Prop := ∀ (c : Value) (d : Option Addr) (H : Hp) (b : Addr) (od : Obj) (u : HO), H b = some (.frz od u) → (∀ o' u', X.H_0 b ≠ some (.frz o' u')) → E c d (upd H b u) → E c d H

section
variable {X : Cx} {E : XK} {K : PySem.W.Frag} {aS : Addr} {A0 : A0T} {O : List Nat} {σ : L2.St} {H H0 : Hp} {s : Ev} {n : Nat} {xq : XQ}
theorem uc_eu : UC X (EU X.H_0 E) := fun c d H b od u h hn ⟨H2, un, e⟩ => ⟨H2, .step h hn un, e⟩
theorem uc_f : UC X EF := fun c d H b od u _ _ z => z
theorem tk_f : TK X EF := fun u s' ⟨_, _, _, _, _, _, _, _, _, _, _, _, _, _, _, _, w⟩ => w.elim
theorem inv_unl {pins : List (Addr × Obj)} {s : Shared} {H2 : Hp} (un : Unl X.H_0 H H2) : Inv X pins σ H s → Inv X pins σ H2 s := by
  induction un with
  | refl => exact fun I => I
  | step h hn _ ih => exact fun I => ih (I.unlock h hn)
theorem none_unl {H2 : Hp} {a : Addr} (un : Unl H0 H H2) : H a = none → H2 a = none := by
  induction un with
  | refl => exact fun z => z
  | @step H H2 b od u h hn _ ih => exact fun z => ih (by rw [upd_ne (fun e => by rw [e, h] at z; cases z)]; exact z)
theorem tk_eu (t : TK X E) : TK X (EU X.H_0 E) := fun u s' ⟨a, B, sI, pins, σ, H, cls, d, e, I, nb, up, sky, na, os, ag, H2, un, w⟩ =>
  t u s' ⟨a, B, sI, pins, σ, H2, cls, d, e, inv_unl un I, nb, up, sky, none_unl un na, os, ag, w⟩
theorem LX.eu {A : AS} (L : LX K E aS A H xq) : LX K (EU H0 E) aS A H xq := fun C fs n d H' k st r q => ⟨H', .refl _, L C fs n d H' k st r q⟩
theorem lx_no {A : AS} : LX K E aS A H (fun _ _ => False) := fun _ _ _ _ _ _ _ _ z => z.elim
/-- what a callee raises -/
theorem LX.call (S : SR K aS O A0 H0 σ H s n) (L : LX K E aS A0 H0 xq) : LX K E aS (AV aS A0 O σ) H xq := fun C fs n' d H' k st r q => by
  refine L C fs n' d H' (S.fr.trans k) st ?_ q
  cases d with
  | none => exact r
  | some a =>
    obtain ⟨ys, h1, h2, h3⟩ := r
    refine ⟨ys, ?_, h2, RepF.mono (sub_le fun b z => ?_) _ _ h3⟩
    · cases e : H0 a with
      | none => rfl
      | some u =>
        by_cases ha : a = aS
        · obtain ⟨xs, q⟩ := S.st.lst
          rw [ha, q] at h1
          cases h1
        · exact (KpS.gone S.fr h1 e (ha)).elim
    · rcases z with z | z | ⟨j, hj, _⟩
      · exact .inl (.inl z)
      · exact .inr (.inl z)
      · cases hj
end
theorem FnOk.loud {P : Program} {w : World} {K : PySem.W.Frag} {mg : Str → Option Value} {base : Heap} {k : Nat} {f : Addr} {fd : FuncData} {ps : List Str} {sp : Sp} (F : FnOk P w K mg base CX0 k f fd ps sp) : FnOk P w K mg base (CX P w) k f fd ps sp :=
  ⟨F.len, fun A outer s H args us vs Q E hr e0 hb r h => codeAny_mono (F.run A outer s H args us vs Q E hr e0 hb r h) fun r s' q => by
    cases r with
    | ok fl => cases fl <;> exact q
    | error e => exact False.elim q⟩
end DL
namespace DL
open PySem PySem.Spec PyProof.Rows L2
variable [TabC]
/-! ### defs -/
structure FSp where
  run : List D → Nat → (D → Nat → Prop) → XQ → Prop
  mn : ∀ ds n Q Q' xq, (∀ d n', Q d n' → Q' d n') → run ds n Q xq → run ds n Q' xq
/-- a plain function of data, where pre holds -/
def FSp.fn (pre : List D → Prop) (f : List D → D) : FSp := ⟨fun ds n Q _ => pre ds ∧ Q (f ds) n, fun _ _ _ _ _ hq h => ⟨h.1, hq _ _ h.2⟩⟩
theorem AV.of {aS : Addr} {A : AS} (h : A aS) : AV aS A [] [] = A := by
  funext b
  refine propext ⟨fun z => ?_, fun z => .inl z⟩
  rcases z with z | z | ⟨j, hj, _⟩
  · exact z
  · exact z ▸ h
  · cases hj
/-- the promise of a def, over values and heaps -/
def lift (K : PySem.W.Frag) (len : Nat) (sp : FSp) : Sp := fun vs H Q E => ∃ (aS : Addr) (A0 : AS) (ds : List D) (n : Nat) (xq : XQ), ds.length = len ∧ RepL K aS H (AV aS A0 [] []) ds vs ∧ StA K aS H n ∧ (∀ a, A0 a → ∃ u, H a = some u) ∧ LX K E aS A0 H xq ∧
  sp.run ds n (fun d n' => ∀ v H', KpS aS H H' → StA K aS H' n' → Rep K aS H' (AV aS A0 [] []) d v → Q v H') xq
def startD (N : List Str) (ds : List D) : Ev := ds.map some ++ List.replicate (N.length - ds.length) none
theorem start_get {α : Type} {l : List α} {k i : Nat} {x : α} (h : (l.map some ++ List.replicate k none)[i]? = some (some x)) : l[i]? = some x := by
  by_cases hi : i < l.length
  · rw [List.getElem?_append_left (by simpa using hi), List.getElem?_map] at h
    cases e : l[i]? with
    | none => rw [e] at h; cases h
    | some y => rw [e] at h; cases h; rfl
  · rw [List.getElem?_append_right (by simpa using hi), List.getElem?_replicate] at h
    split at h <;> cases h
theorem get_start {α : Type} {l : List α} {k i : Nat} {x : α} (h : l[i]? = some x) : (l.map some ++ List.replicate k none)[i]? = some (some x) := by
  have hi := (List.getElem?_eq_some_iff.mp h).1
  rw [List.getElem?_append_left (by simpa using hi), List.getElem?_map, h]
  rfl
section
variable {P : Program} {w : World} {K : PySem.W.Frag} {mg : Str → Option Value} {base : Heap} {x qual : Str} {params : Arguments} {body : List Stmt} {scope : Scope} {dvs : List V} {kws : List (Str × V)} {f : Addr} {fd : FuncData}
theorem SR.start {aS : Addr} {A0 : AS} {H : Hp} {N : List Str} {ds : List D} {vs : List V} {n : Nat} (r : RepL K aS H (AV aS A0 [] []) ds vs) (st : StA K aS H n) (av : ∀ a, A0 a → ∃ u, H a = some u) : SR K aS [] ⟨A0, none⟩ H (L2.start N vs) H (startD N ds) n := by
  have eA : AV aS A0 [] (L2.start N vs) = AV aS A0 [] [] := by
    funext b
    refine propext ⟨fun z => ?_, fun z => av_nil b z⟩
    rcases z with z | z | ⟨j, hj, _⟩
    · exact .inl z
    · exact .inr (.inl z)
    · cases hj
  refine ⟨?_, fun i d e _ => ?_, (fun i hi => nomatch hi), (fun i j b hi => nomatch hi), KpS.refl, st, av, (fun hi => nomatch hi)⟩
  · unfold L2.start startD
    rw [List.length_append, List.length_append, List.length_map, List.length_map, List.length_replicate, List.length_replicate, r.length]
  · obtain ⟨v, ev, rv⟩ := r.get (start_get e)
    rw [eA]
    exact ⟨v, get_start ev, rv⟩
theorem dfn {N ps : List Str} {k : Nat} {sp : FSp} {m : SM} {O' : List Nat} (F : FunD K x qual params body scope dvs kws f fd) (Sc : FnScope N ps scope)
    (hb : ∀ (cdv : Value) (A : Around) (outer : List Env) (s : Shared) (H : Hp) (E : XK), Room k (A.deeper (envOfC qual scope s.heap.objs.size f cdv)) → VSs (cxOf (CX P w) P w K mg base N qual scope f cdv A outer s H E) (EU H E) [] O' [] body m)
    (hm : ∀ ds n Q xq, ds.length = ps.length → sp.run ds n Q xq → m xq { nx := fun _ n' => Q .non n', rt := Q } (startD N ds) n) : FnOk P w K mg base (CX P w) (k + 1) f fd ps (lift K ps.length sp) := by
  refine F.ok Sc (fun vs H Q E h => ?_) (fun cdv A outer s H vs Q E hr h => ?_)
  · obtain ⟨aS, A0, ds, n, xq, hl, r, _⟩ := h
    rw [r.length, hl]
  · obtain ⟨aS, A0, ds, n, xq, hl, r, st, av, L, q⟩ := h
    obtain ⟨t, p, ft⟩ := hb cdv A outer s H E hr
    refine ⟨t, p, ft aS ⟨A0, none⟩ H _ H _ n xq _ _ (SR.start r st av) L.eu ?_ (hm ds n _ xq hl q)⟩
    refine ⟨fun σ' H' s' n' S' q' => q' .non H' S'.fr S'.st rep_non, fun v H' d n' kp st' r' q' => q' v H' kp st' r', fun _ _ _ _ _ z => z.elim, fun _ _ _ _ _ z => z.elim⟩
end
/-! ### calls -/
def eCall (len : Nat) (sp : FSp) (dds : List D) (m : EM (List D)) : EM D := fun xq s n Q => m xq s n fun ds n1 => (ds ++ dds).length = len ∧ sp.run (ds ++ dds) n1 Q xq
section
variable {X : Cx} {E : XK} {O : List Nat} {e o : Expr} {es : List Expr} {mo : EM D} {ml : EM (List D)} {pos p : Pos} {x : Str} {f : Addr} {C : Str} {fd : FuncData} {ps : List Str} {k : Nat} {sp : FSp} {dds : List D} {dvs : List V} {us : List Value}
theorem mn_call {len : Nat} (h : Mn ml) : Mn (eCall len sp dds ml) := fun xq s n Q Q' hq w => h _ _ _ _ _ (fun ds n1 w => ⟨w.1, sp.mn _ _ _ _ _ hq w.2⟩) w
abbrev ET : XK := fun _ _ _ => True
theorem passT : Passes CX0 X ET := fun _ _ _ _ _ _ _ h => h.elim
/-- the promise's question, from the caller's state -/
theorem SR.call {K : PySem.W.Frag} {aS : Addr} {A0 : A0T} {H0 H : Hp} {σ : L2.St} {s : Ev} {n len : Nat} {ds : List D} {vs : List V} {xq : XQ} {Q : VK} (S : SR K aS O A0 H0 σ H s n) (L : LX K E aS A0 H0 xq) (hl : ds.length = len) (r : RepL K aS H (AV aS A0 O σ) ds vs)
    (q : sp.run ds n (fun d n' => ∀ v H', KpS aS H H' → StA K aS H' n' → Rep K aS H' (AV aS A0 O σ) d v → Q v H') xq) : lift K len sp vs H Q E := by
  have eA : AV aS (AV aS A0 O σ) [] [] = AV aS A0 O σ := AV.of AV.st
  refine ⟨aS, AV aS A0 O σ, ds, n, xq, hl, by rw [eA]; exact r, S.st, S.cn.dom, L.call S, ?_⟩
  rw [eA]
  exact q
theorem ve_call (tk : TK X E) (F : FnOk X.prog X.w X.K X.mg X.base (CX X.prog X.w) k f fd ps (lift X.K ps.length sp)) (hr : Room k X.A) (hg : Gl X x) (hm : X.mg x = some (.ref f)) (hk : PySem.W.keepIn X.K (.ref f) = true) (hb : Binds X.K fd ps us) (hd : Vals dvs us)
    (hdd : ∀ aS H A, RepL X.K aS H A dds dvs) (ha : VA Rep X E O (e :: es) ml) (hdb : (x == ("__debug__" : Str)) = false := by decide)
    (he : starEach (e :: es) X.env = (false, eval e X.env) :: starEach es X.env := by rfl) (hpl : (backTo pos (starEach es X.env)).any (·.1) = false := by rfl) : VE X E O (.Call (.Name x p) (e :: es) [] pos) (eCall ps.length sp dds ml) := by
  obtain ⟨mn, t, pa, ft⟩ := ha
  refine ⟨mn_call mn, _, pe_call F hr hg hm hk  hb hd (passes_call tk fun _ _ _ _ h => h) pa hdb he hpl, fun aS A0 H0 σ H s n xq Q S L hm => ?_⟩
  refine ft aS A0 H0 σ H s n xq _ S L (mn _ _ _ _ _ (fun ds n1 q vs H1 k1 st1 r1 => ?_) hm)
  exact (S.step k1 st1).call L q.1 ((RL.repL r1).app (hdd aS H1 _)) (sp.mn _ _ _ _ _ (fun d n' w v H' kp st r => w v H' (k1.trans kp) st r) q.2)
theorem ve_call0 (tk : TK X E) (F : FnOk X.prog X.w X.K X.mg X.base (CX X.prog X.w) k f fd ps (lift X.K ps.length sp)) (hr : Room k X.A) (hg : Gl X x) (hm : X.mg x = some (.ref f)) (hk : PySem.W.keepIn X.K (.ref f) = true) (hb : Binds X.K fd ps us) (hd : Vals dvs us)
    (hdd : ∀ aS H A, RepL X.K aS H A dds dvs) (hdb : (x == ("__debug__" : Str)) = false := by decide) : VE X E O (.Call (.Name x p) [] [] pos) (eCall ps.length sp dds eNil) := by
  refine ⟨mn_call (fun _ _ _ _ _ hq h => hq _ _ h), _, pe_call0 F hr hg hm hk  hb hd (passes_call tk fun _ _ _ _ h => h) hdb, fun aS A0 H0 σ H s n xq Q S L hm => ?_⟩
  exact S.call L hm.1 (hdd aS H _) hm.2
/-- a method of an instance of C -/
def eMeth (C : Str) (mn : Str) (len : Nat) (sp : FSp) (dds : List D) (mo : EM D) (m : EM (List D)) : EM D := fun xq s n Q => mo xq s n fun d n1 => ∃ fs, d = .obj C fs ∧ fs.lookup mn = none ∧ m xq s n1 fun ds n2 => (d :: (ds ++ dds)).length = len ∧ sp.run (d :: (ds ++ dds)) n2 Q xq
theorem repF_look {K : PySem.W.Frag} {aS : Addr} {H : Hp} {A : AS} (g : Str) : ∀ {fs : List (Str × D)} {ys : List (Str × V)}, RepF K aS H A fs ys → (fs.lookup g = none ∧ ys.lookup g = none) ∨ ∃ d v, fs.lookup g = some d ∧ ys.lookup g = some v ∧ Rep K aS H A d v
  | [], ys, h => by
    rw [RepF] at h
    subst h
    exact .inl ⟨rfl, rfl⟩
  | (k, d) :: fs, ys, h => by
    rw [RepF] at h
    obtain ⟨v, vr, e, r, q⟩ := h
    subst e
    rw [List.lookup_cons, List.lookup_cons]
    cases hb : g == k with
    | true => exact .inr ⟨d, v, rfl, rfl, r⟩
    | false => exact repF_look g q
theorem mn_meth {mn : Str} {len : Nat} (h1 : Mn mo) (h : Mn ml) : Mn (eMeth C mn len sp dds mo ml) := fun xq s n Q Q' hq w => h1 _ _ _ _ _ (fun d n1 ⟨fs, e1, e2, w⟩ => ⟨fs, e1, e2, h _ _ _ _ _ (fun ds n2 w => ⟨w.1, sp.mn _ _ _ _ _ hq w.2⟩) w⟩) w
theorem ve_meth {mn : Str} {pe : Expr → TE → Prop} (ho : VE X E O o mo) (ha : VA Rep X E O es ml)
    (hp : ∀ {to : TE} {t : TA}, PE X o to → PA X es t → PE X e (tMeth (He.ga X.K C) mn (lift X.K ps.length sp) dvs E to t)) (hdd : ∀ aS H A, RepL X.K aS H A dds dvs) : VE X E O e (eMeth C mn ps.length sp dds mo ml) := by
  obtain ⟨mn1, t1, p1, f1⟩ := ho
  obtain ⟨mn2, t2, p2, f2⟩ := ha
  refine ⟨mn_meth mn1 mn2, _, hp p1 p2, fun aS A0 H0 σ H s n xq Q S L hm => ?_⟩
  refine f1 aS A0 H0 σ H s n xq _ S L (mn1 _ _ _ _ _ (fun d n1 q v H1 k1 st1 r1 => ?_) hm)
  obtain ⟨fs, ed, hl, q⟩ := q
  subst ed
  have r1' := r1
  rw [Rep] at r1'
  obtain ⟨a, dx, ys, ev, na, hq, rf⟩ := r1'
  have hy : ys.lookup mn = none := by
    rcases repF_look mn rf with z | ⟨_, _, z, _⟩
    · exact z.2
    · rw [hl] at z; cases z
  refine ⟨a, dx, ys, ev, hq, hy, f2 aS A0 H0 σ H1 s n1 xq _ (S.step k1 st1) L (mn2 _ _ _ _ _ (fun ds n2 q2 vs H2 k2 st2 r2 => ?_) q)⟩
  have kk := k1.trans k2
  exact (S.step kk st2).call L q2.1 (RepL.cons (r1.kp k2 st1 AV.st) ((RL.repL r2).app (hdd aS H2 _))) (sp.mn _ _ _ _ _ (fun d n' w v H' kp st r => w v H' (kk.trans kp) st r) q2.2)
/-! ### fields -/
def eFld (C : Str) (g : Str) (m : EM D) : EM D := fun xq s n Q => m xq s n fun d n1 => ∃ fs v, d = .obj C fs ∧ fs.lookup g = some v ∧ Q v n1
theorem ve_fld {g : Str} (cl : Cls X.K (He.ga X.K C)) (na : NoAttr X.K (He.ga X.K C) g) (h : VB X E O o mo) (hb : attributeBase o g X.env (eval o X.env) = eval o X.env := by rfl) : VE X E O (.Attribute o g pos) (eFld C g mo) := by
  obtain ⟨mn, t, p, f⟩ := h
  refine ⟨fun xq s n Q Q' hq w => mn _ _ _ _ _ (fun d n1 ⟨fs, v, e1, e2, q⟩ => ⟨fs, v, e1, e2, hq _ _ q⟩) w, _, pe_fld p hb, fun aS A0 H0 σ H s n xq Q S L hm => ?_⟩
  refine f aS A0 H0 σ H s n xq _ S L (mn _ _ _ _ _ (fun d n1 q v H1 k1 st1 r1 => ?_) hm)
  obtain ⟨fs, v', ed, hl, q⟩ := q
  subst ed
  obtain ⟨a, dx, ys, ev, na', hq, rf⟩ := r1
  rcases repF_look g rf with z | ⟨d, u, z1, z2, z3⟩
  · rw [hl] at z; cases z.1
  · rw [hl] at z1
    cases z1
    exact ⟨a, He.ga X.K C, dx, ys, u, ev, hq, cl, na, z2, q u H1 k1 st1 z3⟩
def putFD (f : Str) (v : D) : List (Str × D) → List (Str × D)
  | [] => [(f, v)]
  | (g, x) :: r => if g = f then (g, v) :: r else (g, x) :: putFD f v r
theorem repF_put {K : PySem.W.Frag} {aS : Addr} {H : Hp} {A : AS} {g : Str} {d : D} {v : V} (r : Rep K aS H A d v) : ∀ {fs : List (Str × D)} {ys : List (Str × V)}, RepF K aS H A fs ys → RepF K aS H A (putFD g d fs) (putF g v ys)
  | [], ys, h => by
    rw [RepF] at h
    subst h
    rw [putFD, putF, RepF]
    exact ⟨v, [], rfl, r, by rw [RepF]⟩
  | (k, d') :: fs, ys, h => by
    rw [RepF] at h
    obtain ⟨v', vr, e, r', q⟩ := h
    subst e
    rw [putFD, putF]
    split
    · rw [RepF]
      exact ⟨v, vr, rfl, r, q⟩
    · rw [RepF]
      exact ⟨v', _, rfl, r', repF_put r q⟩
theorem repF_length {K : PySem.W.Frag} {aS : Addr} {H : Hp} {A : AS} : ∀ {fs : List (Str × D)} {ys : List (Str × V)}, RepF K aS H A fs ys → ys.length = fs.length
  | [], ys, h => by
    rw [RepF] at h
    rw [h]
    rfl
  | (k, d') :: fs, ys, h => by
    rw [RepF] at h
    obtain ⟨v', vr, e, r', q⟩ := h
    rw [e, List.length_cons, List.length_cons, repF_length q]
def sFldD (i : Nat) (C : Str) (g : Str) (m : EM D) : SM := fun xq de s n => m xq s n fun d n' => ∃ fs, s[i]? = some (some (.obj C fs)) ∧ fs.length < 1000 ∧ de.nx (s.set i (some (.obj C (putFD g d fs)))) n'
/-- self.f = e, self owned -/
theorem vs_fld {i : Nat} {g y : Str} {m : EM D} {OL : List Nat} {p2 : Pos} (hi : i ∈ O) (hN : X.N[i]? = some y) (hv : Vis X.env.scope y) (cl : Cls X.K (He.ga X.K C)) (na : NoAttr X.K (He.ga X.K C) g) (h : VE X E O e m) (hs : swapsWith e (some (.Attribute (.Name y p2) g p)) pos.line X.env = pure false := by rfl)
    (hd : (y == ("__debug__" : Str)) = false := by decide) (hcd : (y == ("__classdict__" : Str)) = false := by decide) : VS X E O O OL (.Assign [.Attribute (.Name y p2) g p] e pos) (sFldD i C g m) := by
  obtain ⟨mn, t, pe, f⟩ := h
  refine ⟨_, ps_fld (pe_var hN hv hd hcd) pe hs, fun aS A0 H0 σ H s n xq de De S L k h => f aS A0 H0 σ H s n xq _ S L (mn _ _ _ _ _ (fun d n' q v H' kp st r => ?_) h)⟩
  obtain ⟨fs, e, hl, q⟩ := q
  have S' := S.step kp st
  obtain ⟨d0, a, e1, e2, e3, e4, e5, e6⟩ := S'.ow i hi
  rw [e] at e1
  cases e1
  obtain ⟨dx, ys, ha, rf⟩ := e6
  have hA : AV aS A0 O σ a := .inr (.inr ⟨i, hi, e2⟩)
  refine ⟨_, e2, a, He.ga X.K C, dx, ys, rfl, ha, cl, na, by rw [repF_length rf]; exact hl, k.nx _ _ _ n' (S'.mut (d := .obj C (putFD g d fs)) hi e2 ha (fun _ z => nomatch z) (fun _ _ z => nomatch z) ⟨dx, _, upd_same, ?_⟩) q⟩
  exact RepF.mono (sub_poke hA ha fun _ z => nomatch z) _ _ (repF_put r rf)
end
/-! ### making an instance -/
def liftI (K : PySem.W.Frag) (C : Str) (len : Nat) (sp : FSp) : Sp := fun vs H Q E => ∃ (aS : Addr) (A0 : AS) (ds : List D) (n : Nat) (xq : XQ) (x dx : Addr) (ws : List V), vs = .ref x :: ws ∧ ds.length + 1 = len ∧ H x = some (.ins (He.ga K C) dx []) ∧ ¬ A0 x ∧ x ≠ aS ∧
  RepL K aS H (fun b => AV aS A0 [] [] b ∨ b = x) ds ws ∧ StA K aS H n ∧ (∀ a, A0 a → ∃ u, H a = some u) ∧ LX K E aS A0 (fun b => if b = x then none else H b) xq ∧
  sp.run ds n (fun d n' => ∃ fs, d = .obj C fs ∧ ∀ H' dx' ys, (∀ b u, H b = some u → b ≠ aS → b ≠ x → Kp1 u (H' b)) → StA K aS H' n' → H' x = some (.ins (He.ga K C) dx' ys) → RepF K aS H' (fun b => AV aS A0 [] [] b ∨ b = x) fs ys → Q .non H') xq
section
variable {P : Program} {w : World} {K : PySem.W.Frag} {mg : Str → Option Value} {base : Heap} {x qual : Str} {params : Arguments} {body : List Stmt} {scope : Scope} {dvs : List V} {kws : List (Str × V)} {f : Addr} {C : Str} {fd : FuncData}
theorem SR.startI {aS a dx : Addr} {A0 : AS} {H : Hp} {N : List Str} {ds : List D} {ws : List V} {n : Nat} (hx : H a = some (.ins (He.ga K C) dx [])) (na : ¬ A0 a) (ns : a ≠ aS) (r : RepL K aS H (fun b => AV aS A0 [] [] b ∨ b = a) ds ws) (st : StA K aS H n) (av : ∀ a, A0 a → ∃ u, H a = some u) :
    SR K aS [0] ⟨A0, some a⟩ (fun b => if b = a then none else H b) (L2.start N (.ref a :: ws)) H (startD N (.obj C [] :: ds)) n ∧ AV aS A0 [0] (L2.start N (.ref a :: ws)) = fun b => AV aS A0 [] [] b ∨ b = a := by
  have e0 : (L2.start N (.ref a :: ws))[0]? = some (some (.ref a)) := rfl
  have eA : AV aS A0 [0] (L2.start N (.ref a :: ws)) = fun b => AV aS A0 [] [] b ∨ b = a := by
    funext b
    refine propext ⟨fun z => ?_, fun z => ?_⟩
    · rcases z with z | z | ⟨j, hj, e⟩
      · exact .inl (.inl z)
      · exact .inl (.inr (.inl z))
      · have hj : j = 0 := by simpa using hj
        subst hj
        rw [e0] at e
        cases e
        exact .inr rfl
    · rcases z with z | z
      · exact av_nil b z
      · exact .inr (.inr ⟨0, by simp, by rw [z]; exact e0⟩)
  refine ⟨⟨?_, fun i d e hi => ?_, fun i hi => ?_, fun i j b hi hj _ _ => ?_, fun b u e _ => ?_, st, av, fun _ b e => ?_⟩, eA⟩
  · unfold L2.start startD
    rw [List.length_append, List.length_append, List.length_map, List.length_map, List.length_replicate, List.length_replicate, List.length_cons, List.length_cons, r.length]
  · rw [eA]
    cases i with
    | zero => exact (hi (by simp)).elim
    | succ i =>
      have e2 := start_get e
      obtain ⟨v, ev, rv⟩ := r.get (i := i) (d := d) (by simpa using e2)
      exact ⟨v, get_start (by simpa using ev), rv⟩
  · have hi : i = 0 := by simpa using hi
    subst hi
    refine ⟨.obj C [], a, rfl, rfl, if_pos rfl, na, ns, dx, [], hx, by rw [RepF]⟩
  · have hi : i = 0 := by simpa using hi
    have hj : j = 0 := by simpa using hj
    rw [hi, hj]
  · by_cases z : b = a
    · rw [if_pos z] at e; cases e
    · rw [if_neg z] at e; exact .of e
  · cases e
    rfl
theorem dfnI {N ps : List Str} {k : Nat} {sp : FSp} {m : SM} {O' : List Nat} (F : FunD K x qual params body scope dvs kws f fd) (Sc : FnScope N ps scope) (h0 : 0 ∈ O')
    (hb : ∀ (cdv : Value) (A : Around) (outer : List Env) (s : Shared) (H : Hp) (E : XK), Room k (A.deeper (envOfC qual scope s.heap.objs.size f cdv)) → VSs (cxOf (CX P w) P w K mg base N qual scope f cdv A outer s H E) (EU H E) [0] O' [] body m)
    (hm : ∀ ds n Q xq, ds.length + 1 = ps.length → sp.run ds n Q xq → m xq { nx := fun s' n' => ∃ fs, s'[0]? = some (some (.obj C fs)) ∧ Q (.obj C fs) n', rt := fun _ _ => False } (startD N (.obj C [] :: ds)) n) : FnOk P w K mg base (CX P w) (k + 1) f fd ps (liftI K C ps.length sp) := by
  refine F.ok Sc (fun vs H Q E h => ?_) (fun cdv A outer s H vs Q E hr h => ?_)
  · obtain ⟨aS, A0, ds, n, xq, a, dx, ws, ev, hl, hx, na, ns, r, _⟩ := h
    rw [ev, List.length_cons, r.length, hl]
  · obtain ⟨aS, A0, ds, n, xq, a, dx, ws, ev, hl, hx, na, ns, r, st, av, L, q⟩ := h
    subst ev
    obtain ⟨t, p, ft⟩ := hb cdv A outer s H E hr
    obtain ⟨S, eA⟩ := SR.startI (N := N) hx na ns r st av
    refine ⟨t, p, ft aS ⟨A0, some a⟩ _ _ H _ n xq _ _ S L.eu ?_ (hm ds n _ xq hl q)⟩
    refine ⟨fun σ' H' s' n' S' q' => ?_, fun v H' d n' kp st' r' q' => q'.elim, fun _ _ _ _ _ z => z.elim, fun _ _ _ _ _ z => z.elim⟩
    obtain ⟨fs, e, fs', e', q'⟩ := q'
    cases e'
    obtain ⟨d1, a1, z1, z2, z3, z4, z5, z6⟩ := S'.ow 0 h0
    rw [e] at z1
    cases z1
    have ea := S'.pn h0 a rfl
    rw [z2] at ea
    cases ea
    obtain ⟨dx', ys, hx', rf⟩ := z6
    refine q' H' dx' ys (fun b u hb nb nx => S'.fr b u ?_ nb) S'.st hx' (RepF.mono (sub_le fun b z => ?_) _ _ rf)
    · rw [if_neg nx]
      exact hb
    · rcases z with z | z
      · exact av_nil b z
      · exact .inr (.inr ⟨0, h0, by rw [z]; exact z2⟩)
end
def eMake (len : Nat) (sp : FSp) (dds : List D) (m : EM (List D)) : EM D := fun xq s n Q => m xq s n fun ds n1 => (ds ++ dds).length + 1 = len ∧ sp.run (ds ++ dds) n1 (fun d n2 => (∃ C fs, d = .obj C fs) ∧ Q d n2) xq
section
variable {X : Cx} {E : XK} {O : List Nat} {e : Expr} {es : List Expr} {ml : EM (List D)} {pos p : Pos} {x : Str} {f : Addr} {C : Str} {fd : FuncData} {ps : List Str} {k : Nat} {sp : FSp} {dds : List D} {dvs : List V} {us : List Value}
theorem SR.make {K : PySem.W.Frag} {aS a dx : Addr} {A0 : A0T} {H0 H : Hp} {σ : L2.St} {s : Ev} {n len : Nat} {ds : List D} {vs : List V} {xq : XQ} {Q : VK} (S : SR K aS O A0 H0 σ H s n) (L : LX K E aS A0 H0 xq) (hl : ds.length + 1 = len) (r : RepL K aS H (AV aS A0 O σ) ds vs) (ha : H a = none) (hdx : H dx = none) (hne : dx ≠ a)
    (q : sp.run ds n (fun d n' => ∃ fs, d = .obj C fs ∧ ∀ H', KpS aS H H' → StA K aS H' n' → Own K aS H' (fun b => AV aS A0 O σ b ∨ b = a) a d → Q .non H') xq) : liftI K C len sp (.ref a :: vs) (upd (upd H dx (.own a)) a (.ins (He.ga K C) dx [])) Q E := by
  have eA : AV aS (AV aS A0 O σ) [] [] = AV aS A0 O σ := AV.of AV.st
  have ha1 : upd H dx (.own a) a = none := by rw [upd_ne (Ne.symm hne)]; exact ha
  have na : a ≠ aS := fun z => S.new ha (.inr (.inl z))
  have st1 : StA K aS (upd H dx (.own a)) n := S.st.upd hdx
  have r1 : RepL K aS (upd H dx (.own a)) (AV aS A0 O σ) ds vs := r.kp (KpS.upd hdx) S.st AV.st
  have up : ∀ b u, H b = some u → upd (upd H dx (.own a)) a (.ins (He.ga K C) dx []) b = some u := fun b u e => by rw [upd_ne (ne_of_none e ha), upd_ne (ne_of_none e hdx)]; exact e
  refine ⟨aS, AV aS A0 O σ, ds, n, xq, a, dx, vs, rfl, hl, upd_same, S.new ha, na, ?_, st1.upd ha1, fun b hb => ?_, LX.base (L.call S) (fun b u e _ => ?_), sp.mn _ _ _ _ _ (fun d n' w => ?_) q⟩
  · rw [eA]
    exact RepL.mono (sub_new ha1) _ _ r1
  · obtain ⟨u, e⟩ := S.cn.dom b hb
    exact ⟨u, up _ _ e⟩
  · refine .of ?_
    show (if b = a then none else upd (upd H dx (.own a)) a (.ins (He.ga K C) dx []) b) = some u
    rw [if_neg (ne_of_none e ha)]
    exact up b u e
  · obtain ⟨fs, ed, w⟩ := w
    subst ed
    refine ⟨fs, rfl, fun H' dx' ys kp st hx rf => w H' (fun b u e nb => kp b u (up b u e) nb (ne_of_none e ha)) st ⟨dx', ys, hx, ?_⟩⟩
    rw [eA] at rf
    exact rf
theorem vf_make (tk : TK X E) (M : Mk X.K (He.ga X.K C) f) (F : FnOk X.prog X.w X.K X.mg X.base (CX X.prog X.w) k f fd ps (liftI X.K C ps.length sp)) (hr : Room (k + 1) X.A) (hg : Gl X x) (hm : X.mg x = some (.ref (He.ga X.K C))) (hb : Binds X.K fd ps us) (hd : Vals dvs us)
    (hdd : ∀ aS H A, RepL X.K aS H A dds dvs) (hsp : ∀ ds n Q xq, sp.run ds n Q xq → sp.run ds n (fun d n' => (∃ fs, d = .obj C fs) ∧ Q d n') xq) (ha : VA Rep X E O (e :: es) ml) (hdb : (x == ("__debug__" : Str)) = false := by decide)
    (he : starEach (e :: es) X.env = (false, eval e X.env) :: starEach es X.env := by rfl) (hpl : (backTo pos (starEach es X.env)).any (·.1) = false := by rfl) : VF X E O (.Call (.Name x p) (e :: es) [] pos) (eMake ps.length sp dds ml) := by
  obtain ⟨mn, t, pa, ft⟩ := ha
  refine ⟨fun xq s n Q Q' hq w => mn _ _ _ _ _ (fun ds n1 w => ⟨w.1, sp.mn _ _ _ _ _ (fun d n2 w => ⟨w.1, hq _ _ w.2⟩) w.2⟩) w, _, pe_make M F hr hg hm  hb hd (passes_call tk fun _ _ _ _ h => h) pa hdb he hpl, fun aS A0 H0 σ H s n xq Q S L hm => ?_⟩
  refine ft aS A0 H0 σ H s n xq _ S L (mn _ _ _ _ _ (fun ds n1 q vs H1 k1 st1 r1 => ?_) hm)
  intro a dx ha hdx hne
  have S1 := S.step k1 st1
  refine S1.make L q.1 ((RL.repL r1).app (hdd aS H1 _)) ha hdx hne (sp.mn _ _ _ _ _ (fun d n' w => ?_) (hsp _ _ _ _ q.2))
  obtain ⟨⟨fs, ed⟩, _, w⟩ := w
  refine ⟨fs, ed, fun H' kp st o => ⟨rfl, w a H' ?_ (k1.trans kp) st o⟩⟩
  refine Option.eq_none_iff_forall_ne_some.mpr fun u z => ?_
  exact (KpS.gone k1 ha z (fun y => S1.new ha (.inr (.inl y)))).elim
end
end DL
namespace DL
open PySem PySem.Spec PyProof.Rows L2
variable [TabC]
section
variable {K : PySem.W.Frag} {aS a p : Addr} {H H' H0 : Hp} {A0 : A0T} {O : List Nat} {σ : L2.St} {s : Ev} {n n' i : Nat} {d : D}
theorem AV.own (hi : i ∉ O) (hl : i < σ.length) : AV aS A0 (i :: O) (σ.set i (some (.ref a))) = AV aS (fun b => A0 b ∨ b = a) O σ := by
  rw [AV.plus]
  funext b
  refine propext ⟨fun z => ?_, fun z => ?_⟩
  · rcases z with z | z | ⟨j, hj, e⟩
    · exact .inl (.inl z)
    · exact .inl (.inr (.inl z))
    · by_cases hji : j = i
      · subst hji
        rw [List.getElem?_set_self hl] at e
        cases e
        exact .inr rfl
      · rw [set_other hji] at e
        exact .inl (.inr (.inr ⟨j, (List.mem_cons.mp hj).resolve_left hji, e⟩))
  · rcases z with (z | z | ⟨j, hj, e⟩) | z
    · exact .inl z
    · exact .inr (.inl z)
    · refine .inr (.inr ⟨j, List.mem_cons_of_mem _ hj, ?_⟩)
      rw [set_other (show j ≠ i from fun z => hi (z ▸ hj))]
      exact e
    · refine .inr (.inr ⟨i, List.mem_cons_self, ?_⟩)
      rw [z]
      exact List.getElem?_set_self hl
theorem SR.sub (S : SR K aS O A0 H0 σ H s n) (ha : H a = none) (k : KpS aS H H') : Sub K H H' (AV aS A0 O σ) (fun b => AV aS A0 O σ b ∨ b = a) := by
  obtain ⟨ys, hs⟩ := S.st.lst
  have ne : ∀ b, ¬ AV aS A0 O σ b → b ≠ aS := fun b h e => h (.inr (.inl e))
  refine ⟨fun b xs h q => ⟨fun z => z.elim h (ne_of_none q ha), k _ _ q (ne b h)⟩, fun b xs q => TpA.kp k hs q, fun b ys h q => ⟨fun z => z.elim h ?_, Rd.kp k (ne b h) q⟩, fun b C dx ys h q => ⟨fun z => z.elim h (ne_of_none q ha), k _ _ q (ne b h)⟩⟩
  rcases q with q | ⟨_, q⟩
  · exact ne_of_none q ha
  · exact ne_of_none q ha
/-- behind an expression that made p, p kept for oneself -/
theorem SR.stepA (S : SR K aS O A0 H0 σ H s n) (k : KpS aS H H') (t : StA K aS H' n') (hp : H p = none) (ho : ∃ o, H' p = some o) : SR K aS O ⟨fun b => A0 b ∨ b = p, A0.z⟩ H0 σ H' s n' := by
  refine ⟨S.len, fun j d e hj => ?_, fun j hj => ?_, S.ds, S.fr.trans k, t, fun b hb => ?_, S.pn⟩
  · rw [AV.plus]
    obtain ⟨v, ev, r⟩ := S.sh j d e hj
    exact ⟨v, ev, Rep.mono (S.sub hp k) _ _ r⟩
  · rw [AV.plus]
    obtain ⟨d, b, e1, e2, e3, e4, e5, e6⟩ := S.ow j hj
    refine ⟨d, b, e1, e2, e3, fun z => z.elim e4 fun z => S.new hp (.inr (.inr ⟨j, hj, z ▸ e2⟩)), e5, ?_⟩
    cases d with
    | lst ds => obtain ⟨xs, e, q⟩ := e6; exact ⟨xs, k _ _ e e5, RepL.mono (S.sub hp k) _ _ q⟩
    | dic ds => obtain ⟨xs, e, q⟩ := e6; exact ⟨xs, k _ _ e e5, RepK.mono (S.sub hp k) _ _ q⟩
    | obj C ds => obtain ⟨dx, xs, e, q⟩ := e6; exact ⟨dx, xs, k _ _ e e5, RepF.mono (S.sub hp k) _ _ q⟩
    | _ => exact e6.elim
  · rcases hb with hb | hb
    · exact (S.step k t).av b hb
    · exact hb ▸ ho
theorem Own.there {A : AS} (h : Own K aS H A a d) : ∃ o, H a = some o := by
  cases d with
  | lst ds => obtain ⟨xs, e, q⟩ := h; exact ⟨_, e⟩
  | dic ds => obtain ⟨xs, e, q⟩ := h; exact ⟨_, e⟩
  | obj C ds => obtain ⟨dx, xs, e, q⟩ := h; exact ⟨_, e⟩
  | _ => exact h.elim
end
section
variable {X : Cx} {E : XK} {O OL : List Nat} {a b c e : Expr} {ma mb mc m : EM D} {pos : Pos} {i j : Nat} {x y : Str}
/-! two targets -/
def sPar (i j : Nat) (ma mb : EM D) : SM := fun xq de s n => ma xq s n fun d n1 => mb xq s n1 fun d' n2 => de.nx ((s.set i (some d)).set j (some d')) n2
theorem vs_par {px py pt : Pos} {kt k2 pt2} (hi : i ∉ O) (hj : j ∉ O) (hc : X.calm = true) (hN : X.N.Nodup) (hNi : X.N[i]? = some x) (hNj : X.N[j]? = some y) (hij : i ≠ j) (hx : X.env.scope.names.lookup x = some .local) (hy : X.env.scope.names.lookup y = some .local)
    (ha : VE X E O a ma) (hb : VE X E O b mb) (hw : swappedStores [.Tuple [.Name x px, .Name y py] kt pt] (.Tuple [a, b] k2 pt2) X.env = pure (some [x, y]))
    (hs : swapsWithSole [.Tuple [.Name x px, .Name y py] kt pt] (.Tuple [a, b] k2 pt2) pos.line X.env = pure false := by rfl) (hs1 : starEach [a, b] X.env = (false, eval a X.env) :: starEach [b] X.env := by rfl) (hs2 : starEach [b] X.env = (false, eval b X.env) :: starEach [] X.env := by rfl) :
    VS X E O O OL (.Assign [.Tuple [.Name x px, .Name y py] kt pt] (.Tuple [a, b] k2 pt2) pos) (sPar i j ma mb) := by
  obtain ⟨mna, ta, pa, fa⟩ := ha
  obtain ⟨mnb, tb, pb, fb⟩ := hb
  refine ⟨_, ps_par hc hN hNi hNj hij hx hy (pa_cons pa (pa_cons pb pa_nil hs2) hs1) hw hs, fun aS A0 H0 σ H s n xq de De S L k h => ?_⟩
  refine fa aS A0 H0 σ H s n xq _ S L (mna _ _ _ _ _ (fun d1 n1 q v1 H1 k1 st1 r1 => ?_) h)
  refine fb aS A0 H0 σ H1 s n1 xq _ (S.step k1 st1) L (mnb _ _ _ _ _ (fun d2 n2 q2 v2 H2 k2 st2 r2 => ?_) q)
  have S1 := (S.step (k1.trans k2) st2).set hi (r1.kp k2 st1 AV.st)
  exact ⟨v1, v2, rfl, k.nx _ _ _ _ (S1.set hj (by rw [AV.set hi]; exact r2)) q2⟩
theorem vs_parFF {px py pt : Pos} {kt k2 pt2} (hi : i ∉ O) (hj : j ∉ O) (hi0 : i ≠ 0) (hj0 : j ≠ 0) (hc : X.calm = true) (hN : X.N.Nodup) (hNi : X.N[i]? = some x) (hNj : X.N[j]? = some y) (hij : i ≠ j) (hx : X.env.scope.names.lookup x = some .local) (hy : X.env.scope.names.lookup y = some .local)
    (ha : VF X E O a ma) (hb : VF X E O b mb) (hw : swappedStores [.Tuple [.Name x px, .Name y py] kt pt] (.Tuple [a, b] k2 pt2) X.env = pure (some [x, y]))
    (hs : swapsWithSole [.Tuple [.Name x px, .Name y py] kt pt] (.Tuple [a, b] k2 pt2) pos.line X.env = pure false := by rfl) (hs1 : starEach [a, b] X.env = (false, eval a X.env) :: starEach [b] X.env := by rfl) (hs2 : starEach [b] X.env = (false, eval b X.env) :: starEach [] X.env := by rfl) :
    VS X E O (j :: i :: O) OL (.Assign [.Tuple [.Name x px, .Name y py] kt pt] (.Tuple [a, b] k2 pt2) pos) (fun xq de s n => i < s.length ∧ j < s.length ∧ sPar i j ma mb (fun _ _ => False) de s n) := by
  obtain ⟨mna, ta, pa, fa⟩ := ha
  obtain ⟨mnb, tb, pb, fb⟩ := hb
  refine ⟨_, ps_par hc hN hNi hNj hij hx hy (pa_cons pa (pa_cons pb pa_nil hs2) hs1) hw hs, fun aS A0 H0 σ H s n xq de De S L k h => ?_⟩
  obtain ⟨hl1, hl2, h⟩ := h
  have LF : ∀ A1, LX X.K E aS A1 H0 (fun _ _ => False) := fun _ _ _ _ _ _ _ _ _ z => z.elim
  refine fa aS A0 H0 σ H s n _ _ S (LF _) (mna _ _ _ _ _ (fun d1 n1 q p1 H1 z1 k1 st1 o1 => ?_) h)
  have S1 := S.stepA k1 st1 z1 o1.there
  refine fb aS _ H0 σ H1 s n1 _ _ S1 (LF _) (mnb _ _ _ _ _ (fun d2 n2 q2 p2 H2 z2 k2 st2 o2 => ?_) q)
  have Sa := S.own hi hi0 hl1 z1 k1 st1 o1
  have hlσ : i < σ.length := by rw [S.len]; exact hl1
  refine ⟨_, _, rfl, k.nx _ _ _ _ (Sa.own (fun z => (List.mem_cons.mp z).elim (fun z => hij z.symm) hj) hj0 (by rw [List.length_set]; exact hl2) z2 k2 st2 ?_) q2⟩
  rw [AV.own hi hlσ]
  exact o2
/-! f.append(xs.pop(e)) -/
theorem RepL.erase {K : PySem.W.Frag} {aS : Addr} {H : Hp} {A : AS} : ∀ {ds : List D} {vs : List V} (k : Nat), RepL K aS H A ds vs → RepL K aS H A (ds.eraseIdx k) (vs.eraseIdx k)
  | [], _, _, h => by rw [RepL] at h; rw [h]; exact RepL.nil
  | d :: ds, vs, 0, h => by
    rw [RepL] at h
    obtain ⟨v, vr, e, r, q⟩ := h
    rw [e]
    exact q
  | d :: ds, vs, k + 1, h => by
    rw [RepL] at h
    obtain ⟨v, vr, e, r, q⟩ := h
    rw [e]
    exact RepL.cons r (RepL.erase k q)
theorem seq_nat {k n : Nat} (h : k < n) : seqIndex? (k : Int) n = some k := by
  have e : ixN n (k : Int) = some k := by
    unfold ixN
    rw [if_pos (by omega), if_pos (by omega)]
    simp
  exact (ixN_seq e).1
theorem vs_appPop {p1 p2 ap cp ap2 cp2 : Pos} (hij : j ≠ i) (hi : i ∈ O) (hj : j ∈ O) (hNi : X.N[i]? = some x) (hvi : Vis X.env.scope x) (hNj : X.N[j]? = some y) (hvj : Vis X.env.scope y) (h : VE X E O e m)
    (hpe : ∀ {to tp : TE} {t : TA}, PE X (.Name y p1) to → PE X (.Name x p2) tp → PA X [e] t → PE X (.Call (.Attribute (.Name y p1) "append" ap) [.Call (.Attribute (.Name x p2) "pop" ap2) [e] [] cp2] [] cp) (tBM X.K "list" rAppend to (tCons (tBM X.K "list" rPopAt tp t) tNil)) := by
      intro to tp t h1 h2 h3; exact pe_bm PySem.F.plainAttrs_list PySem.F.slot_list_append PySem.F.type_list_append mt_append h1 (pa_cons (pe_bm PySem.F.plainAttrs_list PySem.F.slot_list_pop PySem.F.type_list_pop mt_popAt h2 h3) pa_nil))
    (hs : swapsWith (.Call (.Attribute (.Name y p1) "append" ap) [.Call (.Attribute (.Name x p2) "pop" ap2) [e] [] cp2] [] cp) none pos.line X.env = pure false := by rfl) (hst : starEach [e] X.env = (false, eval e X.env) :: starEach [] X.env := by rfl)
    (hd : (x == ("__debug__" : Str)) = false := by decide) (hcd : (x == ("__classdict__" : Str)) = false := by decide) (hd2 : (y == ("__debug__" : Str)) = false := by decide) (hcd2 : (y == ("__classdict__" : Str)) = false := by decide) :
    VS X E O O OL (.Expr (.Call (.Attribute (.Name y p1) "append" ap) [.Call (.Attribute (.Name x p2) "pop" ap2) [e] [] cp2] [] cp) pos) (sAppPop j i m) := by
  obtain ⟨mn, t, p, f⟩ := h
  refine ⟨_, ps_expr (hpe (pe_var hNj hvj hd2 hcd2) (pe_var hNi hvi hd hcd) (pa_cons p pa_nil hst)) hs, fun aS A0 H0 σ H s n xq de De S L k h => ?_⟩
  obtain ⟨fs, ds, ef, es, h⟩ := h
  obtain ⟨af, xf, z1, z2, z3, z4⟩ := own_lst S hj ef
  obtain ⟨a, xs, y1, y2, y3, y4⟩ := own_lst S hi es
  refine ⟨_, z1, .inl ⟨rfl, _, SqL.of z3⟩, _, y1, .inl ⟨rfl, _, SqL.of y3⟩, f aS A0 H0 σ H s n xq _ S L (mn _ _ _ _ _ (fun d n' q v H' kp st r => ?_) h)⟩
  obtain ⟨kk, d', ed, hd', hl, hlf, q⟩ := q
  subst ed
  simp only [Rep] at r
  subst r
  have S' := S.step kp st
  have y3' := kp _ _ y3 y2
  have y4' := y4.kp kp S.st AV.st
  have z3' := kp _ _ z3 z2
  have z4' := z4.kp kp S.st AV.st
  obtain ⟨v, hv, rv⟩ := y4'.get hd'
  have hk : kk < xs.length := (List.getElem?_eq_some_iff.mp hv).1
  have hk2 : kk < ds.length := (List.getElem?_eq_some_iff.mp hd').1
  have naf : af ≠ a := fun z => hij (S.ds j i a hj hi (z ▸ z1) y1)
  refine ⟨a, xs, (kk : Int), kk, v, rfl, rfl, y3', by omega, by unfold LIM at hl; omega, seq_nat hk, hv, ?_⟩
  have S2 := S'.mutL hi y1 y3' (y4'.erase kk)
  have hA : AV aS A0 O σ a := .inr (.inr ⟨i, hi, y1⟩)
  have sub := sub_poke (K := X.K) (o' := .lst (xs.eraseIdx kk)) hA y3' (fun _ z => nomatch z)
  have z3'' : upd H' a (.lst (xs.eraseIdx kk)) af = some (.lst xf) := by rw [upd_ne naf]; exact z3'
  refine ⟨af, xf, v, rfl, rfl, z3'', by rw [z4.length]; exact lim_lt hlf, k.nx _ _ _ _ (S2.mutL hj z1 z3'' ?_) q⟩
  exact (RepL.mono sub _ _ z4').app (RepL.cons (Rep.mono sub _ _ rv) RepL.nil)
/-! chains of two comparisons -/
def eChain (f g : D → D → Option D) (ma mb mc : EM D) : EM D := fun xq s n Q => ma xq s n fun x n1 => mb xq s n1 fun y n2 => ∃ k, f x y = some (.bl k) ∧ if k = true then mc xq s n2 fun z n3 => ∃ d, g y z = some d ∧ Q d n3 else Q (.bl false) n2
def eChainT (f g : D → D → Option D) (ma mb mc : EM D) : EM Bool := fun xq s n Q => ma xq s n fun x n1 => mb xq s n1 fun y n2 => ∃ k, f x y = some (.bl k) ∧ if k = true then mc xq s n2 fun z n3 => ∃ b, g y z = some (.bl b) ∧ Q b n3 else Q false n2
end
end DL
namespace DL
open PySem PySem.Spec PyProof.Rows L2
variable [TabC]
/-! ### chains, is None, minus -/
section
variable {X : Cx} {E : XK} {O OL : List Nat} {a b c e : Expr} {ma mb mc m : EM D} {pos : Pos}
theorem mn_chain {f g : D → D → Option D} (h1 : Mn ma) (h2 : Mn mb) (h3 : Mn mc) : Mn (eChain f g ma mb mc) := fun xq s n Q Q' hq w => h1 _ _ _ _ _ (fun d1 n1 w => h2 _ _ _ _ _ (fun d2 n2 ⟨k, e, w⟩ => ⟨k, e, by
  cases k with
  | true => exact h3 _ _ _ _ _ (fun d3 n3 ⟨d, e, q⟩ => ⟨d, e, hq _ _ q⟩) w
  | false => exact hq _ _ w⟩) w) w
theorem mn_chainT {f g : D → D → Option D} (h1 : Mn ma) (h2 : Mn mb) (h3 : Mn mc) : Mn (eChainT f g ma mb mc) := fun xq s n Q Q' hq w => h1 _ _ _ _ _ (fun d1 n1 w => h2 _ _ _ _ _ (fun d2 n2 ⟨k, e, w⟩ => ⟨k, e, by
  cases k with
  | true => exact h3 _ _ _ _ _ (fun d3 n3 ⟨d, e, q⟩ => ⟨d, e, hq _ _ q⟩) w
  | false => exact hq _ _ w⟩) w) w
theorem ve_chain {op op' : CmpOp} {f g : D → D → Option D} (h : OpD X (compareOp op) f) (h' : OpD X (compareOp op') g) (ha : VB X E O a ma) (hb : VB X E O b mb) (hc : VB X E O c mc) (hm : lastMarks [op, op'] [b, c] = false := by rfl) : VE X E O (.Compare a [op, op'] [b, c] pos) (eChain f g ma mb mc) := by
  obtain ⟨mna, ta, pa, fa⟩ := ha
  obtain ⟨mnb, tb, pb, fb⟩ := hb
  obtain ⟨mnc, tc, pc, fc⟩ := hc
  obtain ⟨r, ho, hr⟩ := h
  obtain ⟨r', ho', hr'⟩ := h'
  refine ⟨mn_chain mna mnb mnc, _, pe_chain ho ho' pa pb pc hm, fun aS A0 H0 σ H s n xq Q S L hm => ?_⟩
  refine fa aS A0 H0 σ H s n xq _ S L (mna _ _ _ _ _ (fun d1 n1 q v1 H1 k1 st1 r1 => ?_) hm)
  refine fb aS A0 H0 σ H1 s n1 xq _ (S.step k1 st1) L (mnb _ _ _ _ _ (fun d2 n2 q2 v2 H2 k2 st2 r2 => ?_) q)
  obtain ⟨k, e, q2⟩ := q2
  refine hr aS H2 _ n2 d1 d2 _ v1 v2 _ (S.step (k1.trans k2) st2).cn (r1.kp k2 st1 AV.st) r2 e fun v H3 k3 st3 r3 => ?_
  rw [Rep] at r3
  refine ⟨k, r3, ?_⟩
  cases k with
  | false => rw [if_neg (by decide)] at q2 ⊢; exact q2 _ H3 ((k1.trans k2).trans k3) st3 rep_bl
  | true =>
    rw [if_pos rfl] at q2 ⊢
    refine fc aS A0 H0 σ H3 s n2 xq _ (S.step ((k1.trans k2).trans k3) st3) L (mnc _ _ _ _ _ (fun d3 n3 q3 v3 H4 k4 st4 r4 => ?_) q2)
    obtain ⟨d, e', q3⟩ := q3
    exact hr' aS H4 _ n3 d2 d3 d v2 v3 Q (S.step (((k1.trans k2).trans k3).trans k4) st4).cn ((r2.kp k3 st2 AV.st).kp k4 st3 AV.st) r4 e' fun v H' k st r => q3 v H' ((((k1.trans k2).trans k3).trans k4).trans k) st r
theorem vt_chain {op op' : CmpOp} {f g : D → D → Option D} (h : OpD X (compareOp op) f) (h' : OpD X (compareOp op') g) (ha : VB X E O a ma) (hb : VB X E O b mb) (hc : VB X E O c mc) (hm : lastMarks [op, op'] [b, c] = false := by rfl) : VT X E O (.Compare a [op, op'] [b, c] pos) (eChainT f g ma mb mc) := by
  obtain ⟨mna, ta, pa, fa⟩ := ha
  obtain ⟨mnb, tb, pb, fb⟩ := hb
  obtain ⟨mnc, tc, pc, fc⟩ := hc
  obtain ⟨r, ho, hr⟩ := h
  obtain ⟨r', ho', hr'⟩ := h'
  refine ⟨mn_chainT mna mnb mnc, _, pt_chain ho ho' pa pb pc hm, fun aS A0 H0 σ H s n xq Q S L hm => ?_⟩
  refine fa aS A0 H0 σ H s n xq _ S L (mna _ _ _ _ _ (fun d1 n1 q v1 H1 k1 st1 r1 => ?_) hm)
  refine fb aS A0 H0 σ H1 s n1 xq _ (S.step k1 st1) L (mnb _ _ _ _ _ (fun d2 n2 q2 v2 H2 k2 st2 r2 => ?_) q)
  obtain ⟨k, e, q2⟩ := q2
  refine hr aS H2 _ n2 d1 d2 _ v1 v2 _ (S.step (k1.trans k2) st2).cn (r1.kp k2 st1 AV.st) r2 e fun v H3 k3 st3 r3 => ?_
  rw [Rep] at r3
  refine ⟨k, r3, ?_⟩
  cases k with
  | false => rw [if_neg (by decide)] at q2 ⊢; exact ⟨false, rfl, q2 H3 ((k1.trans k2).trans k3) st3⟩
  | true =>
    rw [if_pos rfl] at q2 ⊢
    refine fc aS A0 H0 σ H3 s n2 xq _ (S.step ((k1.trans k2).trans k3) st3) L (mnc _ _ _ _ _ (fun d3 n3 q3 v3 H4 k4 st4 r4 => ?_) q2)
    obtain ⟨d, e', q3⟩ := q3
    refine hr' aS H4 _ n3 d2 d3 _ v2 v3 _ (S.step (((k1.trans k2).trans k3).trans k4) st4).cn ((r2.kp k3 st2 AV.st).kp k4 st3 AV.st) r4 e' fun v H' k st r => ?_
    rw [Rep] at r
    exact ⟨d, r, q3 H' ((((k1.trans k2).trans k3).trans k4).trans k) st⟩
/-- is None -/
def noneD : D → Bool
  | .non => true
  | _ => false
def rawD : D → Bool
  | .raw _ => true
  | _ => false
def dIsN (x y : D) : Option D := match y with | .non => if rawD x = true then none else some (.bl (noneD x)) | _ => none
def dNotN (x y : D) : Option D := match y with | .non => if rawD x = true then none else some (.bl (!noneD x)) | _ => none
theorem none_rep {K : PySem.W.Frag} {aS : Addr} {H : Hp} {A : AS} {d : D} {v : V} (h : rawD d = false) (r : RepB K aS H A d v) : decide (v = .non) = noneD d := by
  cases d with
  | non => rw [repB_non r]; rfl
  | bl b => rw [repB_bl r]; rfl
  | int b => rw [repB_int r]; rfl
  | str b => rw [repB_str r]; rfl
  | raw b => cases h
  | st => have r : Rep K aS H A .st v := r; rw [Rep] at r; rw [r]; rfl
  | tup b => obtain ⟨a, xs, e, _⟩ := repB_tup r; rw [e]; rfl
  | lst b => obtain ⟨a, xs, e, _⟩ := repB_lst r; rw [e]; rfl
  | dic b => obtain ⟨a, xs, e, _⟩ := repB_dic r; rw [e]; rfl
  | obj C b => obtain ⟨a, dx, xs, e, _⟩ := r; rw [e]; rfl
theorem od_isN : OpD X (compareOp .Is) dIsN := by
  refine ⟨_, op_isN, fun aS H A n d1 d2 d v1 v2 Q c r1 r2 e w => ?_⟩
  unfold dIsN at e
  split at e
  · split at e
    · cases e
    · next h =>
      cases e
      refine ⟨repB_non r2, ?_⟩
      rw [none_rep (by simpa using h) r1]
      exact w _ H KpS.refl c.st rep_bl
  · cases e
theorem od_notN : OpD X (compareOp .IsNot) dNotN := by
  refine ⟨_, op_notN, fun aS H A n d1 d2 d v1 v2 Q c r1 r2 e w => ?_⟩
  unfold dNotN at e
  split at e
  · split at e
    · cases e
    · next h =>
      cases e
      refine ⟨repB_non r2, ?_⟩
      rw [none_rep (by simpa using h) r1]
      exact w _ H KpS.refl c.st rep_bl
  · cases e
def eNeg (m : EM D) : EM D := fun xq s n Q => m xq s n fun d n' => ∃ i : Int, d = .int i ∧ Q (.int (-i)) n'
theorem ve_neg (h : VB X E O e m) : VE X E O (.UnaryOp .USub e pos) (eNeg m) := by
  obtain ⟨mn, t, p, f⟩ := h
  refine ⟨fun xq s n Q Q' hq w => mn _ _ _ _ _ (fun d n' ⟨i, e, q⟩ => ⟨i, e, hq _ _ q⟩) w, _, pe_un un_neg p, fun aS A0 H0 σ H s n xq Q S L hm => f aS A0 H0 σ H s n xq _ S L (mn _ _ _ _ _ (fun d n' q v H' kp st r => ?_) hm)⟩
  obtain ⟨i, e, q⟩ := q
  subst e
  exact ⟨i, repB_int r, q _ H' kp st rep_int⟩
end
/-! ### a dict that is walked is locked meanwhile -/
section
variable {K : PySem.W.Frag} {aS a b : Addr} {H H' H0 : Hp} {A : AS} {A0 : A0T} {O : List Nat} {σ σ' : L2.St} {s s' : Ev} {n n' : Nat} {ys : List (Key × V)} {o : Obj}
theorem sub_lock (hb : H b = some (.dK ys)) : Sub K H (upd H b (.frz o (.dK ys))) A A := by
  have up : ∀ c u, H c = some u → c ≠ b → upd H b (.frz o (.dK ys)) c = some u := fun c u q z => by rw [upd_ne z]; exact q
  refine ⟨fun c xs h q => ⟨h, up _ _ q fun z => ?_⟩, fun c xs q => q.elim (fun q => .inl (up _ _ q fun z => ?_)) .inr, fun c zs h q => ⟨h, ?_⟩, fun c C dx zs h q => ⟨h, up _ _ q fun z => ?_⟩⟩
  · rw [z, hb] at q; cases q
  · rw [z, hb] at q; cases q
  · rcases q with q | ⟨o', q⟩
    · by_cases z : c = b
      · subst z
        rw [hb] at q
        cases q
        exact .inr ⟨o, upd_same⟩
      · exact .inl (up _ _ q z)
    · exact .inr ⟨o', up _ _ q fun z => by rw [z, hb] at q; cases q⟩
  · rw [z, hb] at q; cases q
theorem sub_unlock (hb : H b = some (.frz o (.dK ys))) : Sub K H (upd H b (.dK ys)) A A := by
  have up : ∀ c u, H c = some u → c ≠ b → upd H b (.dK ys) c = some u := fun c u q z => by rw [upd_ne z]; exact q
  refine ⟨fun c xs h q => ⟨h, up _ _ q fun z => ?_⟩, fun c xs q => q.elim (fun q => .inl (up _ _ q fun z => ?_)) .inr, fun c zs h q => ⟨h, ?_⟩, fun c C dx zs h q => ⟨h, up _ _ q fun z => ?_⟩⟩
  · rw [z, hb] at q; cases q
  · rw [z, hb] at q; cases q
  · rcases q with q | ⟨o', q⟩
    · exact .inl (up _ _ q fun z => by rw [z, hb] at q; cases q)
    · by_cases z : c = b
      · subst z
        rw [hb] at q
        cases q
        exact .inl upd_same
      · exact .inr ⟨o', up _ _ q z⟩
  · rw [z, hb] at q; cases q
theorem StA.lock (st : StA K aS H n) (hb : H b = some (.dK ys)) : StA K aS (L2.upd H b (.frz o (.dK ys))) n := by
  obtain ⟨a0, cs, i, g, m, d, e, h1, ⟨ob, h2⟩, h3, h4, h5, h6, h7, h8, h9⟩ := st
  refine ⟨a0, cs, i, g, m, d, ?_, h1, ⟨ob, ?_⟩, h3, h4, h5, h6, h7, h8, tabs_poke h9 hb (fun _ z => nomatch z) (fun _ z => nomatch z)⟩
  · rw [upd_ne (show aS ≠ b from fun z => by rw [z, hb] at e; cases e)]; exact e
  · rw [upd_ne (show a0 ≠ b from fun z => by rw [z, hb] at h2; cases h2)]; exact h2
theorem StA.unlock (st : StA K aS H n) (hb : H b = some (.frz o (.dK ys))) : StA K aS (L2.upd H b (.dK ys)) n := by
  obtain ⟨a0, cs, i, g, m, d, e, h1, ⟨ob, h2⟩, h3, h4, h5, h6, h7, h8, h9⟩ := st
  refine ⟨a0, cs, i, g, m, d, ?_, h1, ⟨ob, ?_⟩, h3, h4, h5, h6, h7, h8, tabs_poke h9 hb (fun _ z => nomatch z) (fun _ z => nomatch z)⟩
  · rw [upd_ne (show aS ≠ b from fun z => by rw [z, hb] at e; cases e)]; exact e
  · rw [upd_ne (show a0 ≠ b from fun z => by rw [z, hb] at h2; cases h2)]; exact h2
theorem Own.mv {d : D} (S : Sub K H H' A A) (h1 : ∀ u, H a = some u → (∀ o v, u ≠ .frz o v) → H' a = some u) (r : Own K aS H A a d) : Own K aS H' A a d := by
  cases d with
  | lst ds => obtain ⟨xs, e, q⟩ := r; exact ⟨xs, h1 _ e (fun _ _ z => nomatch z), RepL.mono S _ _ q⟩
  | dic ds => obtain ⟨xs, e, q⟩ := r; exact ⟨xs, h1 _ e (fun _ _ z => nomatch z), RepK.mono S _ _ q⟩
  | obj C ds => obtain ⟨dx, xs, e, q⟩ := r; exact ⟨dx, xs, h1 _ e (fun _ _ z => nomatch z), RepF.mono S _ _ q⟩
  | _ => exact r
theorem SR.lock (S : SR K aS O A0 H0 σ H s n) (hn : ¬ AV aS A0 O σ b) (hb : H b = some (.dK ys)) : SR K aS O A0 (bare O σ (upd H b (.frz o (.dK ys)))) σ (upd H b (.frz o (.dK ys))) s n where
  len := S.len
  sh := fun i d h1 h2 => let ⟨v, e, r⟩ := S.sh i d h1 h2; ⟨v, e, Rep.mono (sub_lock hb) _ _ r⟩
  ow := fun i h => by
    obtain ⟨d, a, e1, e2, e3, e4, e5, e6⟩ := S.ow i h
    refine ⟨d, a, e1, e2, bare_own ⟨i, h, e2⟩, e4, e5, e6.mv (sub_lock hb) fun u e _ => ?_⟩
    rw [upd_ne (show a ≠ b from fun z => hn (.inr (.inr ⟨i, h, z ▸ e2⟩)))]
    exact e
  ds := S.ds
  fr := fun c u e _ => .of (bare_some e)
  st := S.st.lock hb
  av := fun c h => by
    obtain ⟨u, e⟩ := S.av c h
    by_cases z : c = b
    · exact ⟨_, by rw [z]; exact upd_same⟩
    · exact ⟨u, by rw [upd_ne z]; exact e⟩
  pn := S.pn
theorem SR.leL (S : SR K aS O A0 H0 σ H s n) (hb : H b = some (.dK ys)) : ∀ c u, H0 c = some u → c ≠ aS → c ≠ b → Kp1 u (bare O σ (upd H b (.frz o (.dK ys))) c) := fun c u e z1 z2 => by
  have h := S.le c u e z1
  have hn : ¬ ∃ i, i ∈ O ∧ σ[i]? = some (some (.ref c)) := fun y => by
    obtain ⟨v, q⟩ := h.dom
    rw [bare_own y] at q
    cases q
  rw [bare_not hn] at h
  rw [bare_not hn, upd_ne z2]
  exact h
theorem SR.unkp (S : SR K aS O A0 H0 σ H s n) (hb : H b = some (.dK ys)) (k : KpS aS (bare O σ (upd H b (.frz o (.dK ys)))) H') : KpS aS H0 (upd H' b (.dK ys)) := fun c u e z => by
  by_cases y : c = b
  · have h := S.fr c u e z
    rw [y, hb] at h
    rw [y, upd_same]
    exact h
  · rw [upd_ne y]
    exact (S.leL hb c u e z y).trans fun v e' => k c v e' z
theorem SR.atL (S : SR K aS O A0 H0 σ H s n) (hn : ¬ AV aS A0 O σ b) (hb : H b = some (.dK ys)) (k : KpS aS (bare O σ (upd H b (.frz o (.dK ys)))) H') : H' b = some (.frz o (.dK ys)) :=
  k b (.frz o (.dK ys)) ((bare_not fun z => hn (.inr (.inr z))).trans upd_same) fun z => hn (.inr (.inl z))
theorem SR.unlock (S : SR K aS O A0 H0 σ H s n) (hn : ¬ AV aS A0 O σ b) (hb : H b = some (.dK ys)) {O' : List Nat} (S' : SR K aS O' A0 (bare O σ (upd H b (.frz o (.dK ys)))) σ' H' s' n') : SR K aS O' A0 H0 σ' (upd H' b (.dK ys)) s' n' where
  len := S'.len
  sh := fun i d h1 h2 => let ⟨v, e, r⟩ := S'.sh i d h1 h2; ⟨v, e, Rep.mono (sub_unlock (S.atL hn hb S'.fr)) _ _ r⟩
  ow := fun i h => by
    obtain ⟨d, a, e1, e2, e3, e4, e5, e6⟩ := S'.ow i h
    refine ⟨d, a, e1, e2, Option.eq_none_iff_forall_ne_some.mpr fun u z => ?_, e4, e5, e6.mv (sub_unlock (S.atL hn hb S'.fr)) fun u e nf => ?_⟩
    · by_cases y : a = b
      · rw [y, bare_not fun z => hn (.inr (.inr z)), upd_same] at e3
        cases e3
      · obtain ⟨v, q⟩ := (S.leL hb a u z e5 y).dom
        rw [e3] at q
        cases q
    · have ne : a ≠ b := fun z => by
        rw [z, S.atL hn hb S'.fr] at e
        cases e
        exact nf _ _ rfl
      rw [upd_ne ne]
      exact e
  ds := S'.ds
  fr := S.unkp hb S'.fr
  st := S'.st.unlock (S.atL hn hb S'.fr)
  av := fun c h => by
    obtain ⟨u, e⟩ := S'.av c h
    by_cases z : c = b
    · exact ⟨_, by rw [z]; exact upd_same⟩
    · exact ⟨u, by rw [upd_ne z]; exact e⟩
  pn := S'.pn
end
/-- a path: a name, a field of a path -/
def VP (X : Cx) (O : List Nat) (e : Expr) (p : Ev → Option D) : Prop := ∃ t, PE X e t ∧ ∃ pv : L2.St → Hp → Option V, (∀ σ H v (Q : VK), pv σ H = some v → Q v H → t σ H Q) ∧
  (∀ (aS : Addr) (A0 : A0T) (H0 : Hp) (σ : L2.St) (H : Hp) (s : Ev) (n : Nat) (d : D), SR X.K aS O A0 H0 σ H s n → p s = some d → ∃ v, pv σ H = some v ∧ Rep X.K aS H (AV aS A0 O σ) d v) ∧
  ∀ σ H b o ys, H b = some (.dK ys) → pv σ (upd H b (.frz o (.dK ys))) = pv σ H
section
variable {X : Cx} {E : XK} {O OL vs : List Nat} {e tg : Expr} {p : Ev → Option D} {pos : Pos} {i : Nat} {g : DG} {mb : SM} {me mk : EM D} {mt : EM Bool}
theorem vp_var {x : Str} (hi : i ∉ O) (hN : X.N[i]? = some x) (hv : Vis X.env.scope x) (hd : (x == ("__debug__" : Str)) = false := by decide) (hcd : (x == ("__classdict__" : Str)) = false := by decide) : VP X O (.Name x pos) (fun s => (s[i]?).join) := by
  refine ⟨_, pe_var hN hv hd hcd, fun σ _ => (σ[i]?).join, fun σ H v Q e q => ?_, fun aS A0 H0 σ H s n d S e => ?_, fun _ _ _ _ _ _ => rfl⟩
  · refine ⟨v, ?_, q⟩
    have e : (σ[i]?).join = some v := e
    cases h : σ[i]? with
    | none => rw [h] at e; cases e
    | some o => rw [h] at e; exact congrArg some e
  · have e : (s[i]?).join = some d := e
    have es : s[i]? = some (some d) := by
      cases h : s[i]? with
      | none => rw [h] at e; cases e
      | some o => rw [h] at e; exact congrArg some e
    obtain ⟨v, ev, r⟩ := S.sh i d es hi
    exact ⟨v, by show (σ[i]?).join = some v; rw [ev]; rfl, r⟩
def fldD (C : Str) (g : Str) : D → Option D
  | .obj C' fs => if C' = C then fs.lookup g else none
  | _ => none
def fldV (C : Addr) (g : Str) (H : Hp) : V → Option V
  | .ref a => (match H a with | some (.ins C' _ fs) => if C' = C then fs.lookup g else none | _ => none)
  | _ => none
theorem vp_fld {g : Str} {C : Str} (cl : Cls X.K (He.ga X.K C)) (na : NoAttr X.K (He.ga X.K C) g) (h : VP X O e p) (hb : attributeBase e g X.env (eval e X.env) = eval e X.env := by rfl) : VP X O (.Attribute e g pos) (fun s => (p s).bind (fldD C g)) := by
  obtain ⟨t, pe, pv, h1, h2, h3⟩ := h
  refine ⟨_, pe_fld pe hb, fun σ H => (pv σ H).bind (fldV (He.ga X.K C) g H), fun σ H v Q e q => ?_, fun aS A0 H0 σ H s n d S e => ?_, fun σ H b o ys hb => ?_⟩
  · obtain ⟨u, hp, e2⟩ := Option.bind_eq_some_iff.mp e
    unfold fldV at e2
    split at e2
    · split at e2
      · split at e2
        · next a _ C' dx fs hq hc =>
          subst hc
          exact h1 σ H _ _ hp ⟨a, _, dx, fs, v, rfl, hq, cl, na, e2, q⟩
        · cases e2
      · cases e2
    · cases e2
  · obtain ⟨d0, hp, e2⟩ := Option.bind_eq_some_iff.mp e
    unfold fldD at e2
    split at e2
    · split at e2
      · next C' fs hc =>
        subst hc
        obtain ⟨v, ev, r⟩ := h2 aS A0 H0 σ H s n _ S hp
        rw [Rep] at r
        obtain ⟨a, dx, ys, eq, na', hq, rf⟩ := r
        rcases repF_look g rf with z | ⟨d', u, z1, z2, z3⟩
        · rw [z.1] at e2; cases e2
        · rw [e2] at z1
          cases z1
          refine ⟨u, Option.bind_eq_some_iff.mpr ⟨v, ev, ?_⟩, z3⟩
          rw [eq]
          unfold fldV
          simp only [hq, if_true]
          exact z2
      · cases e2
    · cases e2
  · show (pv σ _).bind _ = (pv σ H).bind _
    rw [h3 σ H b o ys hb]
    congr 1
    funext u
    unfold fldV
    cases u with
    | ref a =>
      by_cases z : a = b
      · simp only [z, upd_same, hb]
      · simp only [upd_ne z]
    | _ => rfl
end
end DL
namespace DL
open PySem PySem.Spec PyProof.Rows L2
variable [TabC]
/-! ### dicts by data -/
def putD (kvs : List (Key × D)) (k : Key) (v : D) : List (Key × D) :=
  if (lookK kvs k).isSome = true then kvs.map (fun p => (p.1, if p.1 = k then v else p.2)) else kvs.concat (k, v)
def mergeD (kvs more : List (Key × D)) : List (Key × D) := more.foldl (fun acc kv => putD acc kv.1 kv.2) kvs
section
variable {K : PySem.W.Frag} {aS a b : Addr} {H H' H0 : Hp} {A : AS}
theorem RepK.nil : RepK K aS H A [] [] := by rw [RepK]
theorem RepK.cons {k : Key} {d : D} {v : V} {ds : List (Key × D)} {vs : List (Key × V)} (r : Rep K aS H A d v) (q : RepK K aS H A ds vs) : RepK K aS H A ((k, d) :: ds) ((k, v) :: vs) := by
  rw [RepK]
  exact ⟨v, vs, rfl, r, q⟩
theorem RepK.new (k : Key) {ds : List (Key × D)} {vs : List (Key × V)} (h : RepK K aS H A ds vs) : (vs.any fun kv => decide (kv.1 = k)) = (lookK ds k).isSome := by
  rw [valV_any]
  rcases h.val k with ⟨e1, e2⟩ | ⟨_, _, e1, e2, _⟩ <;> rw [e1, e2] <;> rfl
theorem RepK.swap {k : Key} {d : D} {v : V} (r : Rep K aS H A d v) : ∀ {ds : List (Key × D)} {vs : List (Key × V)}, RepK K aS H A ds vs → RepK K aS H A (ds.map fun p => (p.1, if p.1 = k then d else p.2)) (vs.map fun kv => if kv.1 = k then (kv.1, v) else kv)
  | [], vs, h => by rw [RepK] at h; rw [h]; exact RepK.nil
  | (k', d') :: ds, vs, h => by
    rw [RepK] at h
    obtain ⟨v', vr, e, r', q⟩ := h
    rw [e, List.map_cons, List.map_cons]
    by_cases z : k' = k
    · rw [if_pos z, if_pos z]; exact RepK.cons r (RepK.swap r q)
    · rw [if_neg z, if_neg z]; exact RepK.cons r' (RepK.swap r q)
theorem RepK.app {es : List (Key × D)} {ws : List (Key × V)} (r : RepK K aS H A es ws) : ∀ {ds : List (Key × D)} {vs : List (Key × V)}, RepK K aS H A ds vs → RepK K aS H A (ds ++ es) (vs ++ ws)
  | [], vs, h => by rw [RepK] at h; rw [h]; exact r
  | (k', d') :: ds, vs, h => by
    rw [RepK] at h
    obtain ⟨v', vr, e, r', q⟩ := h
    rw [e]
    exact RepK.cons r' (RepK.app r q)
theorem RepK.put {ds : List (Key × D)} {vs : List (Key × V)} (k : Key) {d : D} {v : V} (h : RepK K aS H A ds vs) (r : Rep K aS H A d v) : RepK K aS H A (putD ds k d) (putK vs k v) := by
  unfold putD putK
  rw [h.new k]
  split
  · exact RepK.swap r h
  · rw [List.concat_eq_append]
    exact RepK.app (RepK.cons r RepK.nil) h
theorem RepK.merge : ∀ {es : List (Key × D)} {ws : List (Key × V)} {ds : List (Key × D)} {vs : List (Key × V)}, RepK K aS H A es ws → RepK K aS H A ds vs → RepK K aS H A (mergeD ds es) (mergeK vs ws)
  | [], ws, ds, vs, h, q => by rw [RepK] at h; rw [h]; exact q
  | (k, d) :: es, ws, ds, vs, h, q => by
    rw [RepK] at h
    obtain ⟨v', vr, e, r', h⟩ := h
    subst e
    exact RepK.merge (es := es) (ws := vr) h (q.put k r')
theorem putD_len (kvs : List (Key × D)) (k : Key) (d : D) : (putD kvs k d).length ≤ kvs.length + 1 := by
  unfold putD
  split
  · rw [List.length_map]; omega
  · rw [List.length_concat]; exact Nat.le_refl _
end
/-! dict(x) -/
def pairK : D → Option (Key × D)
  | .tup [k, v] => (keyD k).map fun k => (k, v)
  | _ => none
def pairsK : List D → Option (List (Key × D))
  | [] => some []
  | d :: ds => match pairK d, pairsK ds with | some p, some r => some (p :: r) | _, _ => none
def dDict : List D → Option D
  | [.dic kvs] => some (.dic kvs)
  | [.lst ds] => (pairsK ds).map fun kvs => .dic (mergeD [] kvs)
  | _ => none
section
variable {X : Cx}
theorem call_dictC : CallR X (.type "dict") (fun xs H Q => ∃ (a : Addr) (kvs : List (Key × V)), xs = [.ref a] ∧ Rd H a (.dK kvs) ∧ ∀ p, H p = none → Q (.ref p) (upd H p (.dK kvs))) := by
  intro pins s σ H xs us Q I rv q
  obtain ⟨a, kvs, ex, h, q⟩ := q
  subst ex
  obtain ⟨u, eu, rx⟩ := vals1 rv
  subst eu
  cases rx
  exact d_copyOf I h fun p s' hp I' => ⟨.ref p, _, I', rfl, q p hp⟩
theorem pairs_rep {K : PySem.W.Frag} {aS : Addr} {H : Hp} {A : AS} : ∀ {ds : List D} {vs : List V} {kvs : List (Key × D)}, A aS → pairsK ds = some kvs → RepL K aS H A ds vs → ∃ (ps : List Addr) (kws : List (Key × V)), vs = ps.map V.ref ∧ Paired (fun p (kv : Key × V) => SqT K H p [kV kv.1, kv.2]) ps kws ∧ RepK K aS H A kvs kws
  | [], vs, kvs, hA, e, h => by
    rw [RepL] at h
    cases e
    exact ⟨[], [], h, .nil, RepK.nil⟩
  | d :: ds, vs, kvs, hA, e, h => by
    rw [RepL] at h
    obtain ⟨v, vr, ev, r, q⟩ := h
    unfold pairsK at e
    split at e
    · next p rr hp hr =>
      cases e
      obtain ⟨ps, kws, e1, e2, e3⟩ := pairs_rep hA hr q
      unfold pairK at hp
      split at hp
      · next k v' =>
        cases hk : keyD k with
        | none => rw [hk] at hp; cases hp
        | some kk =>
          rw [hk] at hp
          cases hp
          rw [Rep] at r
          obtain ⟨a, xs, ea, ht, rl⟩ := r
          rw [RepL] at rl
          obtain ⟨v1, vr1, ex, r1, rl⟩ := rl
          rw [RepL] at rl
          obtain ⟨v2, vr2, ex2, r2, rl⟩ := rl
          rw [RepL] at rl
          subst rl ex2 ex ea
          have ek := key_rep hk (Rep.b hA r1)
          subst ek
          subst e1
          refine ⟨a :: ps, (kk, v2) :: kws, ev, .cons ht.sq e2, RepK.cons r2 e3⟩
      · cases hp
    · cases e
theorem own_newK' {K : PySem.W.Frag} {aS p : Addr} {H : Hp} {A : AS} {ds : List (Key × D)} {xs : List (Key × V)} (hp : H p = none) (r : RepK K aS H A ds xs) : Own K aS (upd H p (.dK xs)) (fun b => A b ∨ b = p) p (.dic ds) := ⟨xs, upd_same, RepK.mono (sub_new hp) _ _ r⟩
theorem cf_dict (hc : X.calm = true) : CallF X (.type "dict") dDict := by
  refine ⟨_, CallR.or call_dictC (call_dictP hc), fun aS H A n ds d vs Q c rl e w => ?_⟩
  unfold dDict at e
  split at e
  · cases e
    obtain ⟨v, e1, r⟩ := rl_one rl
    obtain ⟨p, xs, e2, _, h1, q⟩ := repB_dic r
    subst e1 e2
    exact .inl ⟨p, xs, rfl, h1, fun l hl => w _ _ hl (KpS.upd hl) (c.st.upd hl) (own_newK' hl q)⟩
  · next ds' =>
    cases hp : pairsK ds' with
    | none => rw [hp] at e; cases e
    | some kvs =>
      rw [hp] at e
      cases e
      obtain ⟨v, e1, r⟩ := rl_one rl
      obtain ⟨p, xs, e2, _, h1, q⟩ := repB_lst r
      subst e1 e2
      obtain ⟨ps, kws, z1, z2, z3⟩ := pairs_rep c.a hp q
      subst z1
      exact .inr ⟨p, ps, kws, rfl, SqL.of h1, z2, fun l hl => w _ _ hl (KpS.upd hl) (c.st.upd hl) (own_newK' hl (z3.merge RepK.nil))⟩
  · cases e
/-! {}, d[k] = v, d.get(k, x) -/
variable {E : XK} {O OL vs : List Nat} {e tg o : Expr} {p : Ev → Option D} {pos : Pos} {i : Nat} {g : DG} {mb : SM} {m me mk mo mx : EM D} {mt : EM Bool}
theorem vf_dic0 : VF X E O (.Dict [] [] pos) (eC (.dic [])) := ⟨mn_c, _, pe_dnewK, fun aS A0 H0 σ H s n xq Q S L hm q hq => hm q _ hq (KpS.upd hq) (S.st.upd hq) (own_newK' hq RepK.nil)⟩
def sDput (i : Nat) (mk m : EM D) : SM := fun xq de s n => m xq s n fun d n1 => mk xq s n1 fun k n2 => ∃ kk kvs, keyD k = some kk ∧ s[i]? = some (some (.dic kvs)) ∧ kvs.length < LIM ∧ de.nx (s.set i (some (.dic (putD kvs kk d)))) n2
theorem vs_dput {x : Str} {ix : Expr} {px ps : Pos} (hu : X.A.units + 1 < cLine) (hi : i ∈ O) (hN : X.N[i]? = some x) (hv : Vis X.env.scope x) (hk : VE X E O ix mk) (h : VE X E O e m) (hs : swapsWith e (some (.Subscript (.Name x px) ix ps)) pos.line X.env = pure false := by rfl)
    (hd : (x == ("__debug__" : Str)) = false := by decide) (hcd : (x == ("__classdict__" : Str)) = false := by decide) : VS X E O O OL (.Assign [.Subscript (.Name x px) ix ps] e pos) (sDput i mk m) := by
  obtain ⟨mn, t, pe, f⟩ := h
  obtain ⟨mnk, tk, pk, fk⟩ := hk
  refine ⟨_, ps_dput hu (pe_var hN hv hd hcd) pk pe hs, fun aS A0 H0 σ H s n xq de De S L k h => ?_⟩
  refine f aS A0 H0 σ H s n xq _ S L (mn _ _ _ _ _ (fun d n1 q v H1 k1 st1 r1 => ?_) h)
  have S1 := S.step k1 st1
  obtain ⟨d0, a, e1, e2, _⟩ := S.ow i hi
  refine ⟨.ref a, e2, fk aS A0 H0 σ H1 s n1 xq _ S1 L (mnk _ _ _ _ _ (fun dk n2 q2 u H2 k2 st2 r2 => ?_) q)⟩
  obtain ⟨kk, kvs, z1, z2, z3, q2⟩ := q2
  have S2 := S1.step k2 st2
  obtain ⟨a', ys, y1, y2, y3, y4⟩ := own_dic S2 hi z2
  rw [e2] at y1
  cases y1
  have ek := key_rep z1 (r2.b AV.st)
  subst ek
  refine ⟨a, _, rfl, DPut.k y3 (by rw [y4.length]; exact lim_lt z3), k.nx _ _ _ _ (S2.mutD hi e2 y3 (y4.put kk (r1.kp k2 st1 AV.st))) q2⟩
def eDget (mo mk mx : EM D) : EM D := fun xq s n Q => mo xq s n fun d n1 => ∃ kvs, d = .dic kvs ∧ mk xq s n1 fun k n2 => mx xq s n2 fun x n3 => ∃ kk, keyD k = some kk ∧ Q ((lookK kvs kk).getD x) n3
theorem ve_dget {ek ex : Expr} {ap : Pos} (hu : X.A.units + 1 < cLine) (ho : VB X E O o mo) (hk : VE X E O ek mk) (hx : VE X E O ex mx) (hM : M2 X o "get" ap ek ex pos := by exact ⟨rfl, rfl, rfl, rfl⟩) : VE X E O (.Call (.Attribute o "get" ap) [ek, ex] [] pos) (eDget mo mk mx) := by
  obtain ⟨mno, to, po, fo⟩ := ho
  obtain ⟨mnk, tk, pk, fk⟩ := hk
  obtain ⟨mnx, tx, px, fx⟩ := hx
  refine ⟨fun xq s n Q Q' hq w => mno _ _ _ _ _ (fun d n1 ⟨kvs, e, w⟩ => ⟨kvs, e, mnk _ _ _ _ _ (fun k n2 w => mnx _ _ _ _ _ (fun x n3 ⟨kk, e, w⟩ => ⟨kk, e, hq _ _ w⟩) w) w⟩) w, _, pe_dget2 hu po pk px hM, fun aS A0 H0 σ H s n xq Q S L hm => ?_⟩
  refine fo aS A0 H0 σ H s n xq _ S L (mno _ _ _ _ _ (fun d n1 q v H1 k1 st1 r1 => ?_) hm)
  obtain ⟨kvs, ed, q⟩ := q
  subst ed
  obtain ⟨a, ys, ev, na, hr, rk⟩ := repB_dic r1
  refine ⟨a, ev, .inl ⟨ys, hr⟩, fk aS A0 H0 σ H1 s n1 xq _ (S.step k1 st1) L (mnk _ _ _ _ _ (fun d2 n2 q2 v2 H2 k2 st2 r2 => ?_) q)⟩
  refine fx aS A0 H0 σ H2 s n2 xq _ (S.step (k1.trans k2) st2) L (mnx _ _ _ _ _ (fun d3 n3 q3 v3 H3 k3 st3 r3 => ?_) q2)
  obtain ⟨kk, z1, q3⟩ := q3
  have ek := key_rep z1 (r2.b AV.st)
  subst ek
  have k23 := k2.trans k3
  have rk' := rk.kp k23 st1 AV.st
  have hr' := Rd.kp k23 na hr
  refine ⟨valV ys kk, .inl ⟨ys, kk, hr', rfl, rfl⟩, q3 _ H3 (k1.trans k23) st3 ?_⟩
  rcases rk'.val kk with ⟨y1, y2⟩ | ⟨d', v', y1, y2, y3⟩
  · rw [y1, y2]; exact r3
  · rw [y1, y2]; exact y3
end
end DL
namespace DL
open PySem PySem.Spec PyProof.Rows L2
variable [TabC]
/-! ### loops by their ends -/
def GSem (X : Cx) (O vs : List Nat) (g : DG) (gt : TG) : Prop := ∀ (aS : Addr) (A0 : A0T) (H0 : Hp) (σ : L2.St) (H : Hp) (s : Ev) (n : Nat) (d : D) (v : V) (Q : Ev → Prop) (QH : L2.St → Hp → Prop), SR X.K aS O A0 H0 σ H s n → Rep X.K aS H (AV aS A0 O σ) d v → g d s Q →
    (∀ σ' s', SR X.K aS O A0 H0 σ' H s' n → σ'.length = σ.length → (∀ j, j ∉ vs → σ'[j]? = σ[j]?) → AV aS A0 O σ' = AV aS A0 O σ → Q s' → QH σ' H) → gt v σ H QH
def TSem (X : Cx) (E : XK) (O : List Nat) (mt : EM Bool) (t : TT) : Prop := ∀ (aS : Addr) (A0 : A0T) (H0 : Hp) (σ : L2.St) (H : Hp) (s : Ev) (n : Nat) (xq : XQ) (Q : Bool → Hp → Prop), SR X.K aS O A0 H0 σ H s n → LX X.K E aS A0 H0 xq →
    mt xq s n (fun b n' => ∀ H', KpS aS H H' → StA X.K aS H' n' → Q b H') → t σ H Q
def ESem (X : Cx) (E : XK) (O : List Nat) (m : EM D) (t : TE) : Prop := ∀ (aS : Addr) (A0 : A0T) (H0 : Hp) (σ : L2.St) (H : Hp) (s : Ev) (n : Nat) (xq : XQ) (Q : VK), SR X.K aS O A0 H0 σ H s n → LX X.K E aS A0 H0 xq →
    m xq s n (fun d n' => ∀ v H', KpS aS H H' → StA X.K aS H' n' → Rep X.K aS H' (AV aS A0 O σ) d v → Q v H') → t σ H Q
def BSem (X : Cx) (E : XK) (O : List Nat) (mb : SM) (t : TS) : Prop := ∀ (aS : Addr) (A0 : A0T) (H0 : Hp) (σ : L2.St) (H : Hp) (s : Ev) (n : Nat) (xq : XQ) (de : DE) (De : Ends), SR X.K aS O A0 H0 σ H s n → LX X.K E aS A0 H0 xq → LK X.K aS O O A0 H0 de De → mb xq de s n → t De σ H
/-- a walk J that begins at H1 -/
abbrev iAt (J : It) (H1 : Hp) : TI := fun _ _ R => R J H1
def ForW (J : It) (g : TG) (tb : TS) (D : Ends) (σ : L2.St) (H1 : Hp) : Prop := tFor (iAt J H1) g tb D σ H1
def LcW (J : It) (g : TG) (tt : TT) (te : TE) (vs : List Nat) (σ : L2.St) (H1 : Hp) (Q : VK) : Prop := tLc (iAt J H1) g tt te vs σ H1 Q
def DcW (J : It) (g : TG) (tt : TT) (tk tv : TE) (vs : List Nat) (σ : L2.St) (H1 : Hp) (Q : VK) : Prop := tDc (iAt J H1) g tt tk tv vs σ H1 Q
/-- one turn of a dict comprehension into the dict at D, N what stands behind it -/
def DTurn (g : TG) (tt : TT) (tk tv : TE) (vs : List Nat) (σ : L2.St) (D : Addr) (N : Hp → Prop) (x : V) (H : Hp) : Prop := g x (wipe σ vs) H fun σ' H' => wipe σ' vs = wipe σ vs ∧ tt σ' H' fun c H'' =>
  if c = true then tk σ' H'' fun y Hk => tv σ' Hk fun z Hv => ∃ kvs k, y = kV k ∧ Hv D = some (.dK kvs) ∧ kvs.length < sizeLine ∧ N (upd Hv D (.dK (putK kvs k z))) else N H''
theorem dc_walk {J : It} {n : Nat} {G : Hp → Prop} {Y : Nat → Hp → V → Hp → Prop} (w : Walk J n G Y) {g : TG} {tt : TT} {tk tv : TE} {vs : List Nat} {σ : L2.St} {H1 : Hp} {Q : VK}
    (h : ∀ D, H1 D = none → ∃ Pv : Nat → Hp → Prop, Pv 0 (upd H1 D (.dK [])) ∧ (∀ i H, i ≤ n → Pv i H → G H) ∧ (∀ i x H H', i < n → Pv i H → Y i H x H' → DTurn g tt tk tv vs σ D (Pv (i + 1)) x H') ∧ ∀ H, Pv n H → Q (.ref D) H) : DcW J g tt tk tv vs σ H1 Q := by
  intro D hD
  obtain ⟨Pv, h0, hG, hs, hd⟩ := h D hD
  refine ⟨fun i m H => i ≤ n ∧ m = n - i ∧ Pv i H, ⟨n, Nat.zero_le _, rfl, h0⟩, fun i m H z => ?_⟩
  obtain ⟨hi, hm, p⟩ := z
  rcases Nat.lt_or_ge i n with hlt | hge
  · exact .inr ⟨w.goes i H hlt (hG i H hi p), Pv (i + 1), fun H' q => ⟨n - (i + 1), by omega, by omega, rfl, q⟩, fun x H' y => hs i x H H' hlt p (w.yields i H x H' hlt (hG i H hi p) y)⟩
  · obtain rfl : i = n := Nat.le_antisymm hi hge
    exact .inl ⟨w.stops H (hG _ H hi p), hd H p⟩
section
variable {X : Cx} {E : XK} {O OB OL vs hid : List Nat} {tg e iter : Expr} {ifs : List Expr} {m me mk : EM D} {mi : EM (List D)} {mt : EM Bool} {mb : SM} {g : DG} {scope : Scope} {pos : Pos}
theorem for_fin {gt : TG} {tb : TS} (fg : GSem X O vs g gt) (fb : BSem X E O mb tb) {aS : Addr} {A0 : A0T} {H0 H1 : Hp} {σ : L2.St} {s : Ev} {n1 : Nat} {xq : XQ} {de : DE} {De : Ends} {ds : List D} {J : It}
    (S1 : SR X.K aS O A0 H0 σ H1 s n1) (L : LX X.K E aS A0 H0 xq) (k : LK X.K aS O OL A0 H0 de De) (it : ItOk X.K aS A0 ds J (bare O σ H1)) (q : sForL g mb xq de ds s n1) : ForW J gt tb De σ H1 := by
  have le := S1.le
  have hF : ∀ {σ' H' s' n'}, SR X.K aS O A0 (bare O σ H1) σ' H' s' n' → Far aS A0 (bare O σ H1) (AV aS A0 O σ') := fun {σ' H' s' n'} S' => ⟨AV.st, fun b z => by
    rcases z with z | z | ⟨j, hj, e⟩
    · exact .inl z
    · exact .inr (.inl z)
    · obtain ⟨d, b', e1, e2, e3, _⟩ := S'.ow j hj
      rw [e] at e2
      cases e2
      exact .inr (.inr e3)⟩
  obtain ⟨G, Y, w, hG, hY⟩ := it
  refine for_it w (fun i σ' H' => ∃ s' n', SR X.K aS O A0 (bare O σ H1) σ' H' s' n' ∧ sForL g mb xq de (ds.drop i) s' n') ⟨s, n1, S1.base, q⟩ (fun i σ' H' _ z => ?_) (fun i x σ' H' H2 hi z y => ?_) (fun σ' H' z => ?_)
  · obtain ⟨s', n', S', _⟩ := z
    exact hG H' S'.fr
  · obtain ⟨s', n', S', q'⟩ := z
    obtain ⟨k2, d, ed, rd⟩ := hY i H' x H2 n' _ hi S'.fr S'.st (hF S') y
    rw [drop_get ed] at q'
    have S2 := S'.step (KpS.all k2.1) (S'.st.kp k2)
    refine fg aS A0 _ σ' H2 s' n' d x _ _ S2 rd q' fun σ3 s3 S3 _ _ a3 q3 => ?_
    exact fb aS A0 _ σ3 H2 s3 n' xq { de with nx := fun s2 n2 => sForL g mb xq de (ds.drop (i + 1)) s2 n2, ct := fun s2 n2 => sForL g mb xq de (ds.drop (i + 1)) s2 n2, bk := de.nx } _ S3 (L.base le) ⟨fun σ4 H4 s4 n4 S4 q4 => ⟨s4, n4, S4, q4⟩, (k.base le).rt, fun σ4 H4 s4 n4 S4 q4 => k.nx σ4 H4 s4 n4 (S4.back le) q4, fun σ4 H4 s4 n4 S4 q4 => ⟨s4, n4, S4, q4⟩⟩ q3
  · obtain ⟨s', n', S', q'⟩ := z
    rw [List.drop_length] at q'
    exact k.nx σ' H' s' n' (S'.back le) q'
theorem lc_fin {own : List (Str × Nat)} {ws : List Nat} {gt : TG} {tt : TT} {te : TE} (mnt : Mn mt) (mne : Mn me) (fg : GSem X OB ws g gt) (ft : TSem X E OB mt tt) (fe : ESem X E OB me te) (hown : ∀ j ∈ own.map (·.2), j ∉ OB) (hws : ∀ j ∈ ws, j ∈ own.map (·.2))
    {aS : Addr} {A0 A1 : A0T} {H0 H H1 : Hp} {σ : L2.St} {s : Ev} {n1 : Nat} {ds : List D} {J : It} {Q : VK} (kp : KpS aS H H1) (st : StA X.K aS H1 n1) (eA : AV aS A1 OB σ = AV aS A0 O σ) (S1 : SR X.K aS OB A1 H0 σ H1 (hideL s hid) n1) (it : ItOk X.K aS A1 ds J (bare OB σ H1)) (hlim : ds.length ≤ LIM)
    (q : sLcL g mt me (fun _ _ => False) (hideL s (own.map (·.2) ++ hid)) ds n1 [] fun xs n2 => ∀ a H', H a = none → KpS aS H H' → StA X.K aS H' n2 → Own X.K aS H' (fun b => AV aS A0 O σ b ∨ b = a) a (.lst xs) → Q (.ref a) H') : LcW J gt tt te (own.map (·.2)) σ H1 Q := by
  have LF : ∀ A1, LX X.K E aS A1 H0 (fun _ _ => False) := fun _ _ _ _ _ _ _ _ _ z => z.elim
  intro Dn hD
  obtain ⟨G, Y, w, hG, hY⟩ := it
  have hDs : Dn ≠ aS := fun z => by
    obtain ⟨xs, e⟩ := st.lst
    rw [z, e] at hD
    cases hD
  have hD0 : H0 Dn = none := Option.eq_none_iff_forall_ne_some.mpr fun u z => by
    exact (KpS.gone S1.fr hD z (hDs)).elim
  have hDH : H Dn = none := Option.eq_none_iff_forall_ne_some.mpr fun u z => by
    exact (KpS.gone kp hD z (hDs)).elim
  have S2 : SR X.K aS OB ⟨fun b => A1 b ∨ b = Dn, A1.z⟩ H0 (L2.wipe σ (own.map (·.2))) (upd H1 Dn (.lst [])) (hideL s (own.map (·.2) ++ hid)) n1 := by
    rw [hideL_append]
    exact (SR.wipe hown S1).laidA hD
  have hFar : ∀ {σ'}, AV aS (fun b => A1 b ∨ b = Dn) OB σ' = AV aS (fun b => A1 b ∨ b = Dn) OB σ → Far aS A1 (bare OB σ H1) (AV aS (fun b => A1 b ∨ b = Dn) OB σ') := fun {σ'} e => by
    rw [e]
    refine ⟨AV.st, fun b z => ?_⟩
    rcases z with (z | z) | z | z
    · exact .inl z
    · refine .inr (.inr ?_)
      by_cases y : ∃ i, i ∈ OB ∧ σ[i]? = some (some (.ref b))
      · exact bare_own y
      · rw [bare_not y, z]; exact hD
    · exact .inr (.inl z)
    · exact .inr (.inr (bare_own z))
  have eW : AV aS (fun b => A1 b ∨ b = Dn) OB (L2.wipe σ (own.map (·.2))) = AV aS (fun b => A1 b ∨ b = Dn) OB σ := AV.wipe hown
  have kb : ∀ {H'}, KpS aS H1 H' → KpS aS (bare OB σ H1) H' := fun {H'} k b u e z => k b u (bare_some e) z
  refine lc_it w (fun i H' => ∃ n' acc xs, SR X.K aS OB ⟨fun b => A1 b ∨ b = Dn, A1.z⟩ H0 (L2.wipe σ (own.map (·.2))) H' (hideL s (own.map (·.2) ++ hid)) n' ∧ KpS aS H1 H' ∧ H' Dn = some (.lst xs) ∧ RepL X.K aS H' (AV aS (fun b => A1 b ∨ b = Dn) OB σ) acc xs ∧ acc.length ≤ i ∧
      sLcL g mt me (fun _ _ => False) (hideL s (own.map (·.2) ++ hid)) (ds.drop i) n' acc (fun xs n2 => ∀ a H', H a = none → KpS aS H H' → StA X.K aS H' n2 → Own X.K aS H' (fun b => AV aS A0 O σ b ∨ b = a) a (.lst xs) → Q (.ref a) H'))
    ⟨n1, [], [], S2, KpS.upd hD, upd_same, RepL.nil, Nat.zero_le _, q⟩ (fun i H' _ z => ?_) (fun i x H' H2 hi z y => ?_) (fun H' z => ?_)
  · obtain ⟨n', acc, xs, _, k1, _⟩ := z
    exact hG H' (kb k1)
  · obtain ⟨n', acc, xs, S', k1, hd, rl, hl, q'⟩ := z
    obtain ⟨k2, d, ed, rd⟩ := hY i H' x H2 n' _ hi (kb k1) S'.st (hFar eW) y
    rw [drop_get ed] at q'
    have S3 := S'.step (KpS.all k2.1) (S'.st.kp k2)
    refine fg aS _ H0 _ H2 _ n' d x _ _ S3 rd q' fun σ3 s3 S4 l3 o3 a3 q3 => ?_
    refine ⟨?_, ft aS _ H0 σ3 H2 s3 n' (fun _ _ => False) _ S4 (LF _) (mnt _ _ _ _ _ (fun c n2 q4 H3 k3 st3 => ?_) q3)⟩
    · have e1 := wipe_eq (vs := own.map (·.2)) l3 fun j hj => o3 j fun z => hj (hws j z)
      rw [e1]
      exact wipe_eq (wipe_length _ _) fun j hj => wipe_out hj
    · have kk : KpS aS H' H3 := (KpS.all k2.1).trans k3
      cases c with
      | true =>
        rw [if_pos rfl] at q4 ⊢
        refine fe aS _ H0 σ3 H3 s3 n2 (fun _ _ => False) _ (S4.step k3 st3) (LF _) (mne _ _ _ _ _ (fun y n3 q5 v H4 k4 st4 r4 => ?_) q4)
        have k5 := kk.trans k4
        refine ⟨xs, k5.lst hd hDs, ?_, n3, acc ++ [y], xs ++ [v], ?_, KpS.upd2 (k1.trans k5) hD, upd_same, ?_, by rw [List.length_append]; exact Nat.succ_le_succ hl, q5⟩
        · rw [rl.length]
          exact Nat.lt_of_le_of_lt hl (lim_lt (Nat.lt_of_lt_of_le hi hlim))
        · exact (S'.step k5 st4).poke (.inr rfl) hDs (k5.lst hd hDs) hD0 (fun _ z => nomatch z) (fun _ _ z => nomatch z)
        · have e2 : AV aS (fun b => A1 b ∨ b = Dn) OB σ3 = AV aS (fun b => A1 b ∨ b = Dn) OB σ := a3.trans eW
          rw [e2] at r4
          exact RepL.mono (sub_poke (A := AV aS (fun b => A1 b ∨ b = Dn) OB σ) (.inl (.inr rfl)) (k5.lst hd hDs) (fun _ z => nomatch z)) _ _ ((rl.kp k5 S'.st AV.st).app (RepL.cons r4 RepL.nil))
      | false =>
        rw [if_neg (by decide)] at q4 ⊢
        exact ⟨n2, acc, xs, S'.step kk st3, k1.trans kk, kk.lst hd hDs, rl.kp kk S'.st AV.st, Nat.le_succ_of_le hl, q4⟩
  · obtain ⟨n', acc, xs, S', k1, hd, rl, hl, q'⟩ := z
    rw [List.drop_length] at q'
    refine q' Dn H' hDH (kp.trans k1) S'.st ⟨xs, hd, ?_⟩
    rw [AV.plus, eA] at rl
    exact rl
end
end DL
namespace DL
open PySem PySem.Spec PyProof.Rows L2
variable [TabC]
/-! ### dict comprehensions -/
def sDcL (g : DG) (mt : EM Bool) (mk me : EM D) (xq : XQ) (s0 : Ev) : List D → Nat → List (Key × D) → (List (Key × D) → Nat → Prop) → Prop
  | [], n, acc, Q => Q acc n
  | d :: ds, n, acc, Q => g d s0 fun s1 => mt xq s1 n fun c n1 => if c = true then mk xq s1 n1 fun k n2 => me xq s1 n2 fun x n3 => ∃ kk, keyD k = some kk ∧ sDcL g mt mk me xq s0 ds n3 (putD acc kk x) Q else sDcL g mt mk me xq s0 ds n1 acc Q
section
variable {X : Cx} {E : XK} {O OB OL vs hid : List Nat} {tg e iter kx : Expr} {ifs : List Expr} {m me mk : EM D} {mi : EM (List D)} {mt : EM Bool} {mb : SM} {g : DG} {scope : Scope} {pos : Pos}
theorem mn_dcL (h1 : Mn mt) (hk : Mn mk) (h2 : Mn me) (h3 : ∀ d s Q Q', (∀ s', Q s' → Q' s') → g d s Q → g d s Q') {xq : XQ} {s0 : Ev} : ∀ (ds : List D) (n : Nat) (acc : List (Key × D)) (Q Q' : List (Key × D) → Nat → Prop), (∀ x n, Q x n → Q' x n) → sDcL g mt mk me xq s0 ds n acc Q → sDcL g mt mk me xq s0 ds n acc Q'
  | [], n, acc, Q, Q', hq, h => hq _ _ h
  | d :: ds, n, acc, Q, Q', hq, h => h3 _ _ _ _ (fun s1 h => h1 _ _ _ _ _ (fun c n1 h => by
      cases c with
      | true => exact hk _ _ _ _ _ (fun k n2 h => h2 _ _ _ _ _ (fun x n3 ⟨kk, e, h⟩ => ⟨kk, e, mn_dcL h1 hk h2 h3 ds n3 _ Q Q' hq h⟩) h) h
      | false => exact mn_dcL h1 hk h2 h3 ds n1 _ Q Q' hq h) h) h
theorem dc_fin {own : List (Str × Nat)} {ws : List Nat} {gt : TG} {tt : TT} {tk te : TE} (mnt : Mn mt) (mnk : Mn mk) (mne : Mn me) (fg : GSem X OB ws g gt) (ft : TSem X E OB mt tt) (fk : ESem X E OB mk tk) (fe : ESem X E OB me te) (hown : ∀ j ∈ own.map (·.2), j ∉ OB) (hws : ∀ j ∈ ws, j ∈ own.map (·.2))
    {aS : Addr} {A0 A1 : A0T} {H0 H H1 : Hp} {σ : L2.St} {s : Ev} {n1 : Nat} {ds : List D} {J : It} {Q : VK} (kp : KpS aS H H1) (st : StA X.K aS H1 n1) (eA : AV aS A1 OB σ = AV aS A0 O σ) (S1 : SR X.K aS OB A1 H0 σ H1 (hideL s hid) n1) (it : ItOk X.K aS A1 ds J (bare OB σ H1)) (hlim : ds.length ≤ LIM)
    (q : sDcL g mt mk me (fun _ _ => False) (hideL s (own.map (·.2) ++ hid)) ds n1 [] fun xs n2 => ∀ a H', H a = none → KpS aS H H' → StA X.K aS H' n2 → Own X.K aS H' (fun b => AV aS A0 O σ b ∨ b = a) a (.dic xs) → Q (.ref a) H') : DcW J gt tt tk te (own.map (·.2)) σ H1 Q := by
  have LF : ∀ A1, LX X.K E aS A1 H0 (fun _ _ => False) := fun _ _ _ _ _ _ _ _ _ z => z.elim
  obtain ⟨G, Y, w, hG, hY⟩ := it
  refine dc_walk w fun Dn hD => ?_
  have hDs : Dn ≠ aS := fun z => by
    obtain ⟨xs, e⟩ := st.lst
    rw [z, e] at hD
    cases hD
  have hD0 : H0 Dn = none := Option.eq_none_iff_forall_ne_some.mpr fun u z => by
    exact (KpS.gone S1.fr hD z (hDs)).elim
  have hDH : H Dn = none := Option.eq_none_iff_forall_ne_some.mpr fun u z => by
    exact (KpS.gone kp hD z (hDs)).elim
  have S2 : SR X.K aS OB ⟨fun b => A1 b ∨ b = Dn, A1.z⟩ H0 (L2.wipe σ (own.map (·.2))) (upd H1 Dn (.dK [])) (hideL s (own.map (·.2) ++ hid)) n1 := by
    rw [hideL_append]
    exact (SR.wipe hown S1).laidA hD
  have hFar : ∀ {σ'}, AV aS (fun b => A1 b ∨ b = Dn) OB σ' = AV aS (fun b => A1 b ∨ b = Dn) OB σ → Far aS A1 (bare OB σ H1) (AV aS (fun b => A1 b ∨ b = Dn) OB σ') := fun {σ'} e => by
    rw [e]
    refine ⟨AV.st, fun b z => ?_⟩
    rcases z with (z | z) | z | z
    · exact .inl z
    · refine .inr (.inr ?_)
      by_cases y : ∃ i, i ∈ OB ∧ σ[i]? = some (some (.ref b))
      · exact bare_own y
      · rw [bare_not y, z]; exact hD
    · exact .inr (.inl z)
    · exact .inr (.inr (bare_own z))
  have eW : AV aS (fun b => A1 b ∨ b = Dn) OB (L2.wipe σ (own.map (·.2))) = AV aS (fun b => A1 b ∨ b = Dn) OB σ := AV.wipe hown
  have kb : ∀ {H'}, KpS aS H1 H' → KpS aS (bare OB σ H1) H' := fun {H'} k b u e z => k b u (bare_some e) z
  refine ⟨(fun i H' => ∃ n' acc xs, SR X.K aS OB ⟨fun b => A1 b ∨ b = Dn, A1.z⟩ H0 (L2.wipe σ (own.map (·.2))) H' (hideL s (own.map (·.2) ++ hid)) n' ∧ KpS aS H1 H' ∧ H' Dn = some (.dK xs) ∧ RepK X.K aS H' (AV aS (fun b => A1 b ∨ b = Dn) OB σ) acc xs ∧ acc.length ≤ i ∧
      sDcL g mt mk me (fun _ _ => False) (hideL s (own.map (·.2) ++ hid)) (ds.drop i) n' acc (fun xs n2 => ∀ a H', H a = none → KpS aS H H' → StA X.K aS H' n2 → Own X.K aS H' (fun b => AV aS A0 O σ b ∨ b = a) a (.dic xs) → Q (.ref a) H'))
    , ⟨n1, [], [], S2, KpS.upd hD, upd_same, RepK.nil, Nat.zero_le _, q⟩, (fun i H' _ z => ?_), (fun i x H' H2 hi z y => ?_), (fun H' z => ?_)⟩
  · obtain ⟨n', acc, xs, _, k1, _⟩ := z
    exact hG H' (kb k1)
  · obtain ⟨n', acc, xs, S', k1, hd, rl, hl, q'⟩ := z
    obtain ⟨k2, d, ed, rd⟩ := hY i H' x H2 n' _ hi (kb k1) S'.st (hFar eW) y
    rw [drop_get ed] at q'
    have S3 := S'.step (KpS.all k2.1) (S'.st.kp k2)
    refine fg aS _ H0 _ H2 _ n' d x _ _ S3 rd q' fun σ3 s3 S4 l3 o3 a3 q3 => ?_
    refine ⟨?_, ft aS _ H0 σ3 H2 s3 n' (fun _ _ => False) _ S4 (LF _) (mnt _ _ _ _ _ (fun c n2 q4 H3 k3 st3 => ?_) q3)⟩
    · have e1 := wipe_eq (vs := own.map (·.2)) l3 fun j hj => o3 j fun z => hj (hws j z)
      rw [e1]
      exact wipe_eq (wipe_length _ _) fun j hj => wipe_out hj
    · have kk : KpS aS H' H3 := (KpS.all k2.1).trans k3
      cases c with
      | true =>
        rw [if_pos rfl] at q4 ⊢
        refine fk aS _ H0 σ3 H3 s3 n2 (fun _ _ => False) _ (S4.step k3 st3) (LF _) (mnk _ _ _ _ _ (fun yk n3 q5 vk H4 k4 st4 r4 => ?_) q4)
        refine fe aS _ H0 σ3 H4 s3 n3 (fun _ _ => False) _ (S4.step (k3.trans k4) st4) (LF _) (mne _ _ _ _ _ (fun y n4 q6 v H5 k5 st5 r5 => ?_) q5)
        have k6 := (kk.trans k4).trans k5
        obtain ⟨key, hk, q6⟩ := q6
        refine ⟨xs, key, key_rep hk (r4.b AV.st), k6.dk hd hDs, ?_, n4, putD acc key y, putK xs key v, ?_, KpS.upd2 (k1.trans k6) hD, upd_same, ?_, Nat.le_trans (putD_len _ _ _) (Nat.succ_le_succ hl), q6⟩
        · rw [rl.length]
          exact Nat.lt_of_le_of_lt hl (lim_lt (Nat.lt_of_lt_of_le hi hlim))
        · exact (S'.step k6 st5).poke (.inr rfl) hDs (k6.dk hd hDs) hD0 (fun _ z => nomatch z) (fun _ _ z => nomatch z)
        · have e2 : AV aS (fun b => A1 b ∨ b = Dn) OB σ3 = AV aS (fun b => A1 b ∨ b = Dn) OB σ := a3.trans eW
          rw [e2] at r5
          exact RepK.mono (sub_poke (A := AV aS (fun b => A1 b ∨ b = Dn) OB σ) (.inl (.inr rfl)) (k6.dk hd hDs) (fun _ z => nomatch z)) _ _ ((rl.kp k6 S'.st AV.st).put key r5)
      | false =>
        rw [if_neg (by decide)] at q4 ⊢
        exact ⟨n2, acc, xs, S'.step kk st3, k1.trans kk, kk _ _ hd hDs, rl.kp kk S'.st AV.st, Nat.le_succ_of_le hl, q4⟩
  · obtain ⟨n', acc, xs, S', k1, hd, rl, hl, q'⟩ := z
    rw [List.drop_length] at q'
    refine q' Dn H' hDH (kp.trans k1) S'.st ⟨xs, hd, ?_⟩
    rw [AV.plus, eA] at rl
    exact rl
def eDc (mi : EM (List D)) (hs : List Nat) (g : DG) (mt : EM Bool) (mk me : EM D) : EM D := fun xq s n Q => mi xq s n fun ds n1 => ds.length ≤ LIM ∧ sDcL g mt mk me (fun _ _ => False) (hideL s hs) ds n1 [] fun xs n2 => Q (.dic xs) n2
theorem vf_dc {own : List (Str × Nat)} {ws : List Nat} (hc : X.calm = true) (hN : X.N.Nodup) (hi : VI X E O OB hid tg iter mi) (ok : BlkOk X.N X.env.scope scope own) (hown : ∀ j ∈ own.map (·.2), j ∉ OB) (hws : ∀ j ∈ ws, j ∈ own.map (·.2))
    (hg : ∀ c : Bk, VG (Cx.bk X scope c) OB ws tg g) (ht : ∀ c : Bk, VTs (Cx.bk X scope c) EF OB ifs mt) (hk : ∀ c : Bk, VE (Cx.bk X scope c) EF OB kx mk) (he : ∀ c : Bk, VE (Cx.bk X scope c) EF OB e me) (hs : ∀ x, foldedSetIterable iter X.env x = pure x := by intro _; rfl) :
    VF X E O (.DictComp kx e [⟨tg, iter, ifs, 0⟩] scope pos) (eDc mi (own.map (·.2) ++ hid) g mt mk me) := by
  have mnt := (ht bk0).1
  have mne := (he bk0).1
  have mnk := (hk bk0).1
  have mng := (hg bk0).1
  obtain ⟨mni, wi, pi, fi⟩ := hi
  obtain ⟨gt, pg, fg⟩ := VG.all hg
  obtain ⟨tt, pt, ft⟩ := VTs.all ht
  obtain ⟨tk, pk, fk⟩ := VX.all hk
  obtain ⟨te, pe, fe⟩ := VX.all he
  refine ⟨fun xq s n Q Q' hq h => mni _ _ _ _ _ (fun ds n1 h => ⟨h.1, mn_dcL mnt mnk mne mng _ _ _ _ _ (fun x n2 => hq _ _) h.2⟩) h, _, pe_dc hc hN pi ok (fun s H C cl fp => pg (s, H, C, cl, fp)) (fun s H C cl fp => pt (s, H, C, cl, fp)) (fun s H C cl fp => pk (s, H, C, cl, fp)) (fun s H C cl fp => pe (s, H, C, cl, fp)) hs, fun aS A0 H0 σ H s n xq Q S L hm => ?_⟩
  refine fi aS A0 H0 σ H s n xq _ S L (mni _ _ _ _ _ (fun ds n1 q J H1 A1 kp st eA S1 it => ?_) hm)
  exact dc_fin mnt mnk mne fg ft fk fe hown hws kp st eA S1 it q.1 q.2
/-! ### over a dict -/
/-- iter walks the dict at a path -/
def VD (X : Cx) (O : List Nat) (tg iter : Expr) (p : Ev → Option D) (f : List (Key × D) → List D) : Prop := ∃ (pv : L2.St → Hp → Option V) (J : Addr → Obj → List (Key × V) → It), PI X tg iter (fun σ H R => ∃ d o kvs, pv σ H = some (.ref d) ∧ H d = some (.frz o (.dK kvs)) ∧ R (J d o kvs) H) ∧
  (∀ (aS : Addr) (A0 : A0T) (H0 : Hp) (σ : L2.St) (H : Hp) (s : Ev) (n : Nat) (d : D), SR X.K aS O A0 H0 σ H s n → p s = some d → ∃ v, pv σ H = some v ∧ Rep X.K aS H (AV aS A0 O σ) d v) ∧
  (∀ σ H b o ys, H b = some (.dK ys) → pv σ (upd H b (.frz o (.dK ys))) = pv σ H) ∧
  ∀ (aS : Addr) (A0 : A0T) (H0 : Hp) (σ : L2.St) (H : Hp) (s : Ev) (n : Nat) b o ys kvs, SR X.K aS O A0 H0 σ H s n → ¬ AV aS A0 O σ b → H b = some (.frz o (.dK ys)) → RepK X.K aS H (AV aS A0 O σ) kvs ys → ItOk X.K aS A0 (f kvs) (J b o ys) (bare O σ H)
def keysD (kvs : List (Key × D)) : List D := (kvs.map (·.1)).map kD
def itemsD (kvs : List (Key × D)) : List D := kvs.map fun kv => .tup [kD kv.1, kv.2]
def valsD (kvs : List (Key × D)) : List D := kvs.map (·.2)
theorem RepK.at {K : PySem.W.Frag} {aS : Addr} {H : Hp} {A : AS} : ∀ {ds : List (Key × D)} {vs : List (Key × V)} {i : Nat} {k : Key} {v : V}, RepK K aS H A ds vs → vs[i]? = some (k, v) → ∃ d, ds[i]? = some (k, d) ∧ Rep K aS H A d v
  | [], vs, i, k, v, h, e => by rw [RepK] at h; rw [h] at e; simp at e
  | (k', d) :: ds, vs, i, k, v, h, e => by
    rw [RepK] at h
    obtain ⟨v', vr, ev, r, q⟩ := h
    subst ev
    cases i with
    | zero =>
      simp at e
      obtain ⟨e1, e2⟩ := e
      subst e1 e2
      exact ⟨d, rfl, r⟩
    | succ i => exact RepK.at (ds := ds) (vs := vr) (i := i) q (by simpa using e)
theorem frz_on {K : PySem.W.Frag} {aS b : Addr} {A0 : AS} {H H1 : Hp} {σ : L2.St} {o : Obj} {v : HO} (hn : ¬ AV aS A0 O σ b) (hb : H b = some (.frz o v)) (k : KpS aS (bare O σ H) H1) : H1 b = some (.frz o v) :=
  k b (.frz o v) ((bare_not fun z => hn (.inr (.inr z))).trans hb) fun z => hn (.inr (.inl z))
theorem vd_keys {p : Ev → Option D} (h : VP X O e p) : VD X O tg e p keysD := by
  obtain ⟨t, pe, pv, h1, h2, h3⟩ := h
  refine ⟨pv, Itk, ⟨fun pins s σ H R I ⟨d, o, kvs, e1, e2, q⟩ => (pi_keys pe).run pins s σ H R I (h1 σ H _ _ e1 ⟨d, o, rfl, .inl ⟨kvs, e2, q⟩⟩)⟩, h2, h3, fun aS A0 H0 σ H s n b o ys kvs S hn hb r => ?_⟩
  have hl : (keysD kvs).length = ys.length := by rw [keysD, List.length_map, List.length_map, r.length]
  refine ⟨_, _, hl ▸ walk_keys, fun H1 k => frz_on (K := X.K) hn hb k, fun i H1 x H2 n A hi k st hF y => ?_⟩
  obtain ⟨e, kk, v, ek, ex⟩ := y
  subst e ex
  refine ⟨Gr.refl _, kD kk, ?_, rep_kD kk⟩
  have e2 : (ys.map (·.1))[i]? = some kk := by rw [List.getElem?_map, ek]; rfl
  rw [r.keys] at e2
  rw [keysD, List.getElem?_map, e2]
  rfl
theorem vd_items {p : Ev → Option D} {elts : List Expr} {kk : Nat} {tpos apos cpos : Pos} (h : VP X O e p) (hbase : attributeBase e "items" X.env (eval e X.env) = eval e X.env := by rfl) (hline : (apos.endLine == cpos.line) = true := by rfl) : VD X O (.Tuple elts kk tpos) (.Call (.Attribute e "items" apos) [] [] cpos) p itemsD := by
  obtain ⟨t, pe, pv, h1, h2, h3⟩ := h
  refine ⟨pv, Iti, ⟨fun pins s σ H R I ⟨d, o, kvs, e1, e2, q⟩ => (pi_items pe hbase hline).run pins s σ H R I (h1 σ H _ _ e1 ⟨d, o, kvs, rfl, e2, q⟩)⟩, h2, h3, fun aS A0 H0 σ H s n b o ys kvs S hn hb r => ?_⟩
  refine it_ypair walk_items (by rw [itemsD, List.length_map, r.length]) (fun H1 k => frz_on (K := X.K) hn hb k) fun i H1 A x y hi k hF ex ey => ?_
  cases e : ys[i]? with
  | none => rw [e] at ex; cases ex
  | some kv =>
    rw [e] at ex ey
    cases ex
    cases ey
    obtain ⟨d, ed, rd⟩ := RepK.at (RepK.mono (S.onBase k hF) _ _ r) e
    refine ⟨kD kv.1, d, ?_, rep_kD _, rd⟩
    rw [itemsD, List.getElem?_map, ed]
    rfl
theorem vd_values {p : Ev → Option D} {apos cpos : Pos} (h : VP X O e p) (hbase : attributeBase e "values" X.env (eval e X.env) = eval e X.env := by rfl) (hline : (apos.endLine == cpos.line) = true := by rfl) : VD X O tg (.Call (.Attribute e "values" apos) [] [] cpos) p valsD := by
  obtain ⟨t, pe, pv, h1, h2, h3⟩ := h
  refine ⟨pv, Itd, ⟨fun pins s σ H R I ⟨d, o, kvs, e1, e2, q⟩ => (pi_values pe hbase hline).run pins s σ H R I (h1 σ H _ _ e1 ⟨d, o, kvs, rfl, e2, q⟩)⟩, h2, h3, fun aS A0 H0 σ H s n b o ys kvs S hn hb r => ?_⟩
  have hl : (valsD kvs).length = ys.length := by rw [valsD, List.length_map, r.length]
  refine ⟨_, _, hl ▸ walk_values, fun H1 k => frz_on (K := X.K) hn hb k, fun i H1 x H2 n A hi k st hF y => ?_⟩
  obtain ⟨e, kk, ek⟩ := y
  subst e
  obtain ⟨d, ed, rd⟩ := RepK.at (RepK.mono (S.onBase k hF) _ _ r) ek
  refine ⟨Gr.refl _, d, ?_, rd⟩
  rw [valsD, List.getElem?_map, ed]
  rfl
theorem kp_unlock {aS b : Addr} {H H' : Hp} {o : Obj} {ys : List (Key × V)} (hb : H b = some (.dK ys)) (k : KpS aS (upd H b (.frz o (.dK ys))) H') : KpS aS H (upd H' b (.dK ys)) := fun c u e z => by
  by_cases y : c = b
  · rw [y, hb] at e
    cases e
    rw [y]
    exact upd_same
  · rw [upd_ne y]
    exact k c u (by rw [upd_ne y]; exact e) z
theorem LK.unlock {K : PySem.W.Frag} {aS b : Addr} {A0 : A0T} {H0 H : Hp} {σ : L2.St} {s : Ev} {n : Nat} {o : Obj} {ys : List (Key × V)} {de : DE} {De : Ends} {O O' : List Nat} (S : SR K aS O A0 H0 σ H s n) (hn : ¬ AV aS A0 O σ b) (hb : H b = some (.dK ys)) (k : LK K aS O' OL A0 H0 de De) :
    LK K aS O' OL A0 (bare O σ (upd H b (.frz o (.dK ys)))) de ⟨fun σ' H' => H' b = some (.frz o (.dK ys)) ∧ De.nx σ' (upd H' b (.dK ys)), fun v H' => H' b = some (.frz o (.dK ys)) ∧ De.rt v (upd H' b (.dK ys)), fun σ' H' => H' b = some (.frz o (.dK ys)) ∧ De.bk σ' (upd H' b (.dK ys)), fun σ' H' => H' b = some (.frz o (.dK ys)) ∧ De.ct σ' (upd H' b (.dK ys))⟩ where
  nx := fun σ' H' s' n' S' q => ⟨S.atL hn hb S'.fr, k.nx _ _ _ _ (S.unlock hn hb S') q⟩
  rt := fun v H' d n' kp st r q => ⟨S.atL hn hb kp, k.rt _ _ _ _ (S.unkp hb kp) (st.unlock (S.atL hn hb kp)) (Rep.mono (sub_unlock (S.atL hn hb kp)) _ _ r) q⟩
  bk := fun σ' H' s' n' S' q => ⟨S.atL hn hb S'.fr, k.bk _ _ _ _ (S.unlock hn hb S') q⟩
  ct := fun σ' H' s' n' S' q => ⟨S.atL hn hb S'.fr, k.ct _ _ _ _ (S.unlock hn hb S') q⟩
theorem ps_or {st : Stmt} {t u : TS} (h : PS X st t) (h' : PS X st u) : PS X st (fun D σ H => t D σ H ∨ u D σ H) := ⟨fun pins s σ H D I q => q.elim (h.run pins s σ H D I) (h'.run pins s σ H D I)⟩
theorem pe_or {t u : TE} (h : PE X e t) (h' : PE X e u) : PE X e (fun σ H Q => t σ H Q ∨ u σ H Q) := ⟨fun pins s σ H D I q => q.elim (h.run pins s σ H D I) (h'.run pins s σ H D I)⟩
/-- locked at d -/
def tLockAt (d : Addr) (u : HO) (t : TS) : TS := fun D σ H => ∀ od, t ⟨fun σ' H' => H' d = some (.frz od u) ∧ D.nx σ' (upd H' d u), fun v H' => H' d = some (.frz od u) ∧ D.rt v (upd H' d u), fun σ' H' => H' d = some (.frz od u) ∧ D.bk σ' (upd H' d u), fun σ' H' => H' d = some (.frz od u) ∧ D.ct σ' (upd H' d u)⟩ σ (upd H d (.frz od u))
def sForD (p : Ev → Option D) (f : List (Key × D) → List D) (g : DG) (mb : SM) : SM := fun xq de s n => ∃ kvs, p s = some (.dic kvs) ∧ sForL g mb xq de (f kvs) s n
/-- a statement while the thing at d is locked; d was not locked at the def's entry -/
theorem ps_lockN {st : Stmt} {t : TS} (h : PS X st t) : PS X st (fun D σ H => ∃ d u, H d = some u ∧ Mut (some u) ∧ ((∀ o' u', X.H_0 d ≠ some (.frz o' u')) → tLockAt d u t D σ H)) := by
  refine ⟨fun pins s σ H D I hw => ?_⟩
  obtain ⟨d, u, hd, mu, hw⟩ := hw
  have z : tLock t D σ H := ⟨d, u, hd, mu, hw (I.nofrz hd mu)⟩
  exact (ps_lock h).run pins s σ H D I z
theorem LX.unlock {K : PySem.W.Frag} {aS b : Addr} {A0 : A0T} {H0 H : Hp} {σ : L2.St} {s : Ev} {n : Nat} {o : Obj} {ys : List (Key × V)} {O : List Nat} {xq : XQ} (uc : UC X E) (hz : ∀ o' u', X.H_0 b ≠ some (.frz o' u')) (S : SR K aS O A0 H0 σ H s n) (hn : ¬ AV aS A0 O σ b) (hb : H b = some (.dK ys)) (L : LX K E aS A0 H0 xq) :
    LX K E aS A0 (bare O σ (upd H b (.frz o (.dK ys)))) xq := fun C fs n' d H' kp st r q => by
  have hl := S.atL hn hb kp
  refine uc _ _ _ b o _ hl hz (L C fs n' d _ (S.unkp hb kp) (st.unlock hl) ?_ q)
  cases d with
  | none => exact r
  | some a =>
    obtain ⟨zs, h1, h2, h3⟩ := r
    have hab : a ≠ b := fun z => by rw [z, hl] at h2; cases h2
    refine ⟨zs, ?_, by rw [upd_ne hab]; exact h2, RepF.mono (sub_unlock hl) _ _ h3⟩
    cases e : H0 a with
    | none => rfl
    | some u =>
      have hs : a ≠ aS := fun z => by
        obtain ⟨xs, q⟩ := st.lst
        rw [z, q] at h2
        cases h2
      have no : ¬ ∃ i, i ∈ O ∧ σ[i]? = some (some (.ref a)) := fun ⟨i, hi, ei⟩ => by
        obtain ⟨d1, a1, z1, z2, z3, _⟩ := S.ow i hi
        rw [ei] at z2
        cases z2
        rw [e] at z3
        cases z3
      rw [bare_not no, upd_ne hab] at h1
      exact (KpS.gone S.fr h1 e hs).elim
theorem vs_forD {p : Ev → Option D} {f : List (Key × D) → List D} {body : List Stmt} (uc : UC X E) (hp : PassesOwn (model X.prog X.w) X.A X.env X.xe) (hc : X.calm = true) (hi : VD X O tg iter p f) (hg : VG X O vs tg g) (hb : VSs X E O O O body mb)
    (hs : ∀ x, foldedSetIterable iter X.env x = pure x := by intro _; rfl) : VS X E O O OL (.For tg iter body [] pos) (sForD p f g mb) := by
  obtain ⟨pv, J, pi, h2, h3, h4⟩ := hi
  obtain ⟨_, gt, pg, fg⟩ := hg
  obtain ⟨tb, pb, fb⟩ := hb
  have ps := ps_for (pos := pos) hp hc pi pg pb hs
  refine ⟨_, ps_or ps (ps_lockN ps), fun aS A0 H0 σ H s n xq de De S L k h => ?_⟩
  obtain ⟨kvs, e, q⟩ := h
  obtain ⟨v, ev, r⟩ := h2 aS A0 H0 σ H s n _ S e
  rw [Rep] at r
  obtain ⟨b, ys, eb, hn, hr, rk⟩ := r
  subst eb
  rcases hr with hr | ⟨o, hr⟩
  · refine .inr ⟨b, _, hr, trivial, fun hz od => ⟨b, od, ys, ?_, upd_same, ?_⟩⟩
    · rw [h3 σ H b od ys hr]; exact ev
    · have Sl := S.lock (o := od) hn hr
      exact for_fin fg fb Sl (LX.unlock uc hz S hn hr L) (k.unlock S hn hr) (h4 aS A0 _ σ _ s n b od ys kvs Sl hn upd_same (RepK.mono (sub_lock hr) _ _ rk)) q
  · exact .inl ⟨b, o, ys, ev, hr, for_fin fg fb S L k (h4 aS A0 H0 σ H s n b o ys kvs S hn hr rk) q⟩
def eLcD (p : Ev → Option D) (f : List (Key × D) → List D) (hs : List Nat) (g : DG) (mt : EM Bool) (me : EM D) : EM D := fun xq s n Q => ∃ kvs, p s = some (.dic kvs) ∧ (f kvs).length ≤ LIM ∧ sLcL g mt me (fun _ _ => False) (hideL s hs) (f kvs) n [] fun xs n2 => Q (.lst xs) n2
theorem vf_lcD {p : Ev → Option D} {f : List (Key × D) → List D} {own : List (Str × Nat)} {ws : List Nat} (hc : X.calm = true) (hN : X.N.Nodup) (hi : VD X O tg iter p f) (ok : BlkOk X.N X.env.scope scope own) (hown : ∀ j ∈ own.map (·.2), j ∉ O) (hws : ∀ j ∈ ws, j ∈ own.map (·.2))
    (hg : ∀ c : Bk, VG (Cx.bk X scope c) O ws tg g) (ht : ∀ c : Bk, VTs (Cx.bk X scope c) EF O ifs mt) (he : ∀ c : Bk, VE (Cx.bk X scope c) EF O e me) (hs : ∀ x, foldedSetIterable iter X.env x = pure x := by intro _; rfl) :
    VF X E O (.ListComp e [⟨tg, iter, ifs, 0⟩] scope pos) (eLcD p f (own.map (·.2) ++ []) g mt me) := by
  have mnt := (ht bk0).1
  have mne := (he bk0).1
  have mng := (hg bk0).1
  obtain ⟨pv, J, pi, h2, h3, h4⟩ := hi
  obtain ⟨gt, pg, fg⟩ := VG.all hg
  obtain ⟨tt, pt, ft⟩ := VTs.all ht
  obtain ⟨te, pe, fe⟩ := VX.all he
  have pl := pe_lc (pos := pos) hc hN pi ok (fun s H C cl fp => pg (s, H, C, cl, fp)) (fun s H C cl fp => pt (s, H, C, cl, fp)) (fun s H C cl fp => pe (s, H, C, cl, fp)) hs
  refine ⟨fun xq s n Q Q' hq ⟨kvs, e, h1, h⟩ => ⟨kvs, e, h1, mn_lcL mnt mne mng _ _ _ _ _ (fun x n2 => hq _ _) h⟩, _, pe_or pl (pe_lock pl), fun aS A0 H0 σ H s n xq Q S L hm => ?_⟩
  obtain ⟨kvs, e, hl, q⟩ := hm
  obtain ⟨v, ev, r⟩ := h2 aS A0 H0 σ H s n _ S e
  rw [Rep] at r
  obtain ⟨b, ys, eb, hn, hr, rk⟩ := r
  subst eb
  have nb : b ≠ aS := fun z => hn (.inr (.inl z))
  rcases hr with hr | ⟨o, hr⟩
  · refine .inr ⟨b, _, hr, trivial, fun od => ⟨b, od, ys, ?_, upd_same, ?_⟩⟩
    · rw [h3 σ H b od ys hr]; exact ev
    · have Sl := S.lock (o := od) hn hr
      refine lc_fin (Q := fun v H' => H' b = some (.frz od (.dK ys)) ∧ Q v (upd H' b (.dK ys))) (hid := []) (A0 := A0) mnt mne fg ft fe hown hws KpS.refl Sl.st rfl Sl (h4 aS A0 _ σ _ s n b od ys kvs Sl hn upd_same (RepK.mono (sub_lock hr) _ _ rk)) hl (mn_lcL mnt mne mng _ _ _ _ _ (fun xs n2 q a H' ha kp st ow => ?_) q)
      have hb' : H' b = some (.frz od (.dK ys)) := kp _ _ upd_same nb
      have nab : a ≠ b := fun z => by rw [z, upd_same] at ha; cases ha
      refine ⟨hb', q a _ (by rw [upd_ne nab] at ha; exact ha) (kp_unlock hr kp) (st.unlock hb') (ow.mv (sub_unlock hb') fun u e _ => by rw [upd_ne nab]; exact e)⟩
  · exact .inl ⟨b, o, ys, ev, hr, lc_fin (hid := []) (A0 := A0) mnt mne fg ft fe hown hws KpS.refl S.st rfl S (h4 aS A0 H0 σ H s n b o ys kvs S hn hr rk) hl q⟩
def eDcD (p : Ev → Option D) (f : List (Key × D) → List D) (hs : List Nat) (g : DG) (mt : EM Bool) (mk me : EM D) : EM D := fun xq s n Q => ∃ kvs, p s = some (.dic kvs) ∧ (f kvs).length ≤ LIM ∧ sDcL g mt mk me (fun _ _ => False) (hideL s hs) (f kvs) n [] fun xs n2 => Q (.dic xs) n2
theorem vf_dcD {p : Ev → Option D} {f : List (Key × D) → List D} {own : List (Str × Nat)} {ws : List Nat} (hc : X.calm = true) (hN : X.N.Nodup) (hi : VD X O tg iter p f) (ok : BlkOk X.N X.env.scope scope own) (hown : ∀ j ∈ own.map (·.2), j ∉ O) (hws : ∀ j ∈ ws, j ∈ own.map (·.2))
    (hg : ∀ c : Bk, VG (Cx.bk X scope c) O ws tg g) (ht : ∀ c : Bk, VTs (Cx.bk X scope c) EF O ifs mt) (hk : ∀ c : Bk, VE (Cx.bk X scope c) EF O kx mk) (he : ∀ c : Bk, VE (Cx.bk X scope c) EF O e me) (hs : ∀ x, foldedSetIterable iter X.env x = pure x := by intro _; rfl) :
    VF X E O (.DictComp kx e [⟨tg, iter, ifs, 0⟩] scope pos) (eDcD p f (own.map (·.2) ++ []) g mt mk me) := by
  have mnt := (ht bk0).1
  have mnk := (hk bk0).1
  have mne := (he bk0).1
  have mng := (hg bk0).1
  obtain ⟨pv, J, pi, h2, h3, h4⟩ := hi
  obtain ⟨gt, pg, fg⟩ := VG.all hg
  obtain ⟨tt, pt, ft⟩ := VTs.all ht
  obtain ⟨tk, pk, fk⟩ := VX.all hk
  obtain ⟨te, pe, fe⟩ := VX.all he
  have pl := pe_dc (pos := pos) hc hN pi ok (fun s H C cl fp => pg (s, H, C, cl, fp)) (fun s H C cl fp => pt (s, H, C, cl, fp)) (fun s H C cl fp => pk (s, H, C, cl, fp)) (fun s H C cl fp => pe (s, H, C, cl, fp)) hs
  refine ⟨fun xq s n Q Q' hq ⟨kvs, e, h1, h⟩ => ⟨kvs, e, h1, mn_dcL mnt mnk mne mng _ _ _ _ _ (fun x n2 => hq _ _) h⟩, _, pe_or pl (pe_lock pl), fun aS A0 H0 σ H s n xq Q S L hm => ?_⟩
  obtain ⟨kvs, e, hl, q⟩ := hm
  obtain ⟨v, ev, r⟩ := h2 aS A0 H0 σ H s n _ S e
  rw [Rep] at r
  obtain ⟨b, ys, eb, hn, hr, rk⟩ := r
  subst eb
  have nb : b ≠ aS := fun z => hn (.inr (.inl z))
  rcases hr with hr | ⟨o, hr⟩
  · refine .inr ⟨b, _, hr, trivial, fun od => ⟨b, od, ys, ?_, upd_same, ?_⟩⟩
    · rw [h3 σ H b od ys hr]; exact ev
    · have Sl := S.lock (o := od) hn hr
      refine dc_fin (Q := fun v H' => H' b = some (.frz od (.dK ys)) ∧ Q v (upd H' b (.dK ys))) (hid := []) (A0 := A0) mnt mnk mne fg ft fk fe hown hws KpS.refl Sl.st rfl Sl (h4 aS A0 _ σ _ s n b od ys kvs Sl hn upd_same (RepK.mono (sub_lock hr) _ _ rk)) hl (mn_dcL mnt mnk mne mng _ _ _ _ _ (fun xs n2 q a H' ha kp st ow => ?_) q)
      have hb' : H' b = some (.frz od (.dK ys)) := kp _ _ upd_same nb
      have nab : a ≠ b := fun z => by rw [z, upd_same] at ha; cases ha
      refine ⟨hb', q a _ (by rw [upd_ne nab] at ha; exact ha) (kp_unlock hr kp) (st.unlock hb') (ow.mv (sub_unlock hb') fun u e _ => by rw [upd_ne nab]; exact e)⟩
  · exact .inl ⟨b, o, ys, ev, hr, dc_fin (hid := []) (A0 := A0) mnt mnk mne fg ft fk fe hown hws KpS.refl S.st rfl S (h4 aS A0 H0 σ H s n b o ys kvs S hn hr rk) hl q⟩
end
end DL
namespace DL
open PySem PySem.Spec PyProof.Rows L2
variable [TabC]
/-! ### defs that hand back a new object -/
def VSsF (X : Cx) (E : XK) (O : List Nat) (st : List Stmt) (m : SM) : Prop := ∃ t, PSs X st t ∧ ∀ (aS : Addr) (A0 : A0T) (H0 : Hp) (σ : L2.St) (H : Hp) (s : Ev) (n : Nat) (xq : XQ) (de : DE) (De : Ends), SR X.K aS O A0 H0 σ H s n → LX X.K E aS A0 H0 xq →
  (∀ a H' d n', H0 a = none → KpS aS H0 H' → StA X.K aS H' n' → Own X.K aS H' (fun b => AV aS A0 [] [] b ∨ b = a) a d → de.rt d n' → De.rt (.ref a) H') → m xq de s n → t De σ H
def sSeqF (m r : SM) : SM := fun xq de s n => m xq { nx := fun s' n' => r xq de s' n', rt := fun _ _ => False } s n
def liftF (K : PySem.W.Frag) (len : Nat) (sp : FSp) : Sp := fun vs H Q E => ∃ (aS : Addr) (A0 : AS) (ds : List D) (n : Nat) (xq : XQ), ds.length = len ∧ RepL K aS H (AV aS A0 [] []) ds vs ∧ StA K aS H n ∧ (∀ a, A0 a → ∃ u, H a = some u) ∧ LX K E aS A0 H xq ∧
  sp.run ds n (fun d n' => ∀ a H', H a = none → KpS aS H H' → StA K aS H' n' → Own K aS H' (fun b => AV aS A0 [] [] b ∨ b = a) a d → Q (.ref a) H') xq
section
variable {X : Cx} {E : XK} {O O' : List Nat} {e : Expr} {st : Stmt} {rest : List Stmt} {m : EM D} {ms mr : SM} {pos : Pos} {i : Nat}
theorem vssF_cons (h1 : VS X E O O' [] st ms) (h2 : VSsF X E O' rest mr) : VSsF X E O (st :: rest) (sSeqF ms mr) := by
  obtain ⟨t, p, f⟩ := h1
  obtain ⟨u, p2, f2⟩ := h2
  exact ⟨_, pss_cons p p2, fun aS A0 H0 σ H s n xq de De S L k h => f aS A0 H0 σ H s n xq { nx := fun s' n' => mr xq de s' n', rt := fun _ _ => False } _ S L ⟨fun σ' H' s' n' S' q => f2 aS A0 H0 σ' H' s' n' xq de De S' L k q, fun _ _ _ _ _ _ _ z => z.elim, fun _ _ _ _ _ z => z.elim, fun _ _ _ _ _ z => z.elim⟩ h⟩
theorem vssF_ret (h : VF X E O e m) : VSsF X E O [.Return (some e) pos] (sRet m) := by
  obtain ⟨mn, t, p, f⟩ := h
  refine ⟨_, pss_one (ps_ret p), fun aS A0 H0 σ H s n xq de De S L k h => f aS A0 H0 σ H s n xq _ S L (mn _ _ _ _ _ (fun d n' q a H' ha kp st o => k a H' d n' ?_ (S.fr.trans kp) st (o.mono fun b z => ?_) q) h)⟩
  · refine Option.eq_none_iff_forall_ne_some.mpr fun u z => ?_
    exact (KpS.gone S.fr ha z (fun y => S.new ha (.inr (.inl y)))).elim
  · exact z.elim (fun z => .inl (av_nil b z)) .inr
theorem vssF_retO {x : Str} {p' : Pos} (hi : i ∈ O) (hN : X.N[i]? = some x) (hv : Vis X.env.scope x) (hd : (x == ("__debug__" : Str)) = false := by decide) (hcd : (x == ("__classdict__" : Str)) = false := by decide) : VSsF X E O [.Return (some (.Name x p')) pos] (sRet (eVar i)) := by
  refine ⟨_, pss_one (ps_ret (pe_var hN hv hd hcd)), fun aS A0 H0 σ H s n xq de De S L k h => ?_⟩
  obtain ⟨d, e, q⟩ := h
  obtain ⟨d', a, e1, e2, e3, e4, e5, e6⟩ := S.ow i hi
  rw [e] at e1
  cases e1
  exact ⟨.ref a, e2, k a H d n e3 S.fr S.st (e6.mono fun b z => z.elim (fun z => av_nil b z) fun z => .inr (.inr ⟨i, hi, z ▸ e2⟩)) q⟩
variable {P : Program} {w : World} {K : PySem.W.Frag} {mg : Str → Option Value} {base : Heap} {x qual : Str} {params : Arguments} {body : List Stmt} {scope : Scope} {dvs : List V} {kws : List (Str × V)} {f : Addr} {fd : FuncData}
theorem dfnF {N ps : List Str} {k : Nat} {sp : FSp} {m : SM} (F : FunD K x qual params body scope dvs kws f fd) (Sc : FnScope N ps scope)
    (hb : ∀ (cdv : Value) (A : Around) (outer : List Env) (s : Shared) (H : Hp) (E : XK), Room k (A.deeper (envOfC qual scope s.heap.objs.size f cdv)) → VSsF (cxOf (CX P w) P w K mg base N qual scope f cdv A outer s H E) (EU H E) [] body m)
    (hm : ∀ ds n Q xq, ds.length = ps.length → sp.run ds n Q xq → m xq { nx := fun _ _ => False, rt := Q } (startD N ds) n) : FnOk P w K mg base (CX P w) (k + 1) f fd ps (liftF K ps.length sp) := by
  refine F.ok Sc (fun vs H Q E h => ?_) (fun cdv A outer s H vs Q E hr h => ?_)
  · obtain ⟨aS, A0, ds, n, xq, hl, r, _⟩ := h
    rw [r.length, hl]
  · obtain ⟨aS, A0, ds, n, xq, hl, r, st, av, L, q⟩ := h
    obtain ⟨t, p, ft⟩ := hb cdv A outer s H E hr
    refine ⟨t, p, ft aS ⟨A0, none⟩ H _ H _ n xq _ _ (SR.start r st av) L.eu ?_ (hm ds n _ xq hl q)⟩
    exact fun a H' d n' ha kp st o q => q a H' ha kp st o
end
section
variable {X : Cx} {E : XK} {O : List Nat} {e : Expr} {es : List Expr} {ml : EM (List D)} {pos p : Pos} {x : Str} {f : Addr} {fd : FuncData} {ps : List Str} {k : Nat} {sp : FSp} {dds : List D} {dvs : List V} {us : List Value}
theorem SR.callF {K : PySem.W.Frag} {aS : Addr} {A0 : A0T} {H0 H : Hp} {σ : L2.St} {s : Ev} {n len : Nat} {ds : List D} {vs : List V} {xq : XQ} {Q : VK} (S : SR K aS O A0 H0 σ H s n) (L : LX K E aS A0 H0 xq) (hl : ds.length = len) (r : RepL K aS H (AV aS A0 O σ) ds vs)
    (q : sp.run ds n (fun d n' => ∀ a H', H a = none → KpS aS H H' → StA K aS H' n' → Own K aS H' (fun b => AV aS A0 O σ b ∨ b = a) a d → Q (.ref a) H') xq) : liftF K len sp vs H Q E := by
  have eA : AV aS (AV aS A0 O σ) [] [] = AV aS A0 O σ := AV.of AV.st
  refine ⟨aS, AV aS A0 O σ, ds, n, xq, hl, by rw [eA]; exact r, S.st, S.cn.dom, L.call S, ?_⟩
  rw [eA]
  exact q
theorem vf_call (tk : TK X E) (F : FnOk X.prog X.w X.K X.mg X.base (CX X.prog X.w) k f fd ps (liftF X.K ps.length sp)) (hr : Room k X.A) (hg : Gl X x) (hm : X.mg x = some (.ref f)) (hk : PySem.W.keepIn X.K (.ref f) = true) (hb : Binds X.K fd ps us) (hd : Vals dvs us)
    (hdd : ∀ aS H A, RepL X.K aS H A dds dvs) (ha : VA Rep X E O (e :: es) ml) (hdb : (x == ("__debug__" : Str)) = false := by decide)
    (he : starEach (e :: es) X.env = (false, eval e X.env) :: starEach es X.env := by rfl) (hpl : (backTo pos (starEach es X.env)).any (·.1) = false := by rfl) : VF X E O (.Call (.Name x p) (e :: es) [] pos) (eCall ps.length sp dds ml) := by
  obtain ⟨mn, t, pa, ft⟩ := ha
  refine ⟨mn_call mn, _, pe_call F hr hg hm hk  hb hd (passes_call tk fun _ _ _ _ h => h) pa hdb he hpl, fun aS A0 H0 σ H s n xq Q S L hm => ?_⟩
  refine ft aS A0 H0 σ H s n xq _ S L (mn _ _ _ _ _ (fun ds n1 q vs H1 k1 st1 r1 => ?_) hm)
  have S1 := S.step k1 st1
  refine S1.callF L q.1 ((RL.repL r1).app (hdd aS H1 _)) (sp.mn _ _ _ _ _ (fun d n' w a H' ha kp st o => w a H' ?_ (k1.trans kp) st o) q.2)
  refine Option.eq_none_iff_forall_ne_some.mpr fun u z => ?_
  exact (KpS.gone k1 ha z (fun y => S1.new ha (.inr (.inl y)))).elim
end
end DL
namespace DL
open PySem PySem.Spec PyProof.Rows L2
variable [TabC]
/-! ### defs by their global names -/
def GFn (P : Program) (w : World) (K : PySem.W.Frag) (mg : Str → Option Value) (base : Heap) (x : Str) (k : Nat) (ps : List Str) (L : Sp) : Prop := ∃ f fd, mg x = some (.ref f) ∧ PySem.W.keepIn K (.ref f) = true ∧ Binds K fd ps [] ∧ FnOk P w K mg base (CX P w) k f fd ps L
theorem Room.le {k k' : Nat} {A : Around} (h : Room k' A) (hk : k ≤ k') : Room k A := ⟨h.hd, by have := h.dp; omega, by have := h.un; omega⟩
theorem Room.u {k : Nat} {A : Around} (h : Room k A) : A.units + 1 < cLine := by have := h.un; omega
theorem Room.u64 {k : Nat} {A : Around} (h : Room k A) : A.units + 64 < cLine := by have := h.un; omega
theorem Room.u65 {k : Nat} {A : Around} (h : Room k A) : A.units + 65 < cLine := by have := h.un; omega
section
variable {X : Cx} {E : XK} {O : List Nat} {e : Expr} {es : List Expr} {ml : EM (List D)} {pos p : Pos} {x : Str} {ps : List Str} {k k' : Nat} {sp : FSp}
theorem ve_g (tk : TK X E) {len : Nat} (hl : ps.length = len) (G : GFn X.prog X.w X.K X.mg X.base x k ps (lift X.K len sp)) (hr : Room k' X.A) (hk : k ≤ k') (hg : Gl X x) (ha : VA Rep X E O (e :: es) ml) (hdb : (x == ("__debug__" : Str)) = false := by decide)
    (he : starEach (e :: es) X.env = (false, eval e X.env) :: starEach es X.env := by rfl) (hpl : (backTo pos (starEach es X.env)).any (·.1) = false := by rfl) : VE X E O (.Call (.Name x p) (e :: es) [] pos) (eCall len sp [] ml) := by
  subst hl
  obtain ⟨f, fd, h1, h2, h3, h4⟩ := G
  exact ve_call tk h4 (DL.Room.le hr hk) hg h1 h2 h3 .nil (fun _ _ _ => RepL.nil) ha hdb he hpl
theorem vf_g (tk : TK X E) {len : Nat} (hl : ps.length = len) (G : GFn X.prog X.w X.K X.mg X.base x k ps (liftF X.K len sp)) (hr : Room k' X.A) (hk : k ≤ k') (hg : Gl X x) (ha : VA Rep X E O (e :: es) ml) (hdb : (x == ("__debug__" : Str)) = false := by decide)
    (he : starEach (e :: es) X.env = (false, eval e X.env) :: starEach es X.env := by rfl) (hpl : (backTo pos (starEach es X.env)).any (·.1) = false := by rfl) : VF X E O (.Call (.Name x p) (e :: es) [] pos) (eCall len sp [] ml) := by
  subst hl
  obtain ⟨f, fd, h1, h2, h3, h4⟩ := G
  exact vf_call tk h4 (DL.Room.le hr hk) hg h1 h2 h3 .nil (fun _ _ _ => RepL.nil) ha hdb he hpl
end
section
variable {P : Program} {w : World} {K : PySem.W.Frag} {mg : Str → Option Value} {base : Heap} {x : Str} {params : Arguments} {body : List Stmt} {scope : Scope} {f : Addr} {fd : FuncData}
/-- a call's own context -/
abbrev CxD (P : Program) (w : World) (K : PySem.W.Frag) (mg : Str → Option Value) (base : Heap) (N : List Str) (qual : Str) (scope : Scope) (f : Addr) (cdv : Value) (A : Around) (outer : List Env) (s : Shared) (H : Hp) (E : XK) : Cx := cxOf (CX P w) P w K mg base N qual scope f cdv A outer s H E
theorem cx_tk {N : List Str} {qual : Str} {scope : Scope} {f : Addr} {cdv : Value} {A : Around} {outer : List Env} {s : Shared} {H : Hp} {E : XK} : TK (CxD P w K mg base N qual scope f cdv A outer s H E) (EU H E) := tk_eu (X := CxD P w K mg base N qual scope f cdv A outer s H E) (takes_of rfl rfl rfl rfl)
theorem cx_po {N : List Str} {qual : Str} {scope : Scope} {f : Addr} {cdv : Value} {A : Around} {outer : List Env} {s : Shared} {H : Hp} {E : XK} : PassesOwn (model P w) (CxD P w K mg base N qual scope f cdv A outer s H E).A (CxD P w K mg base N qual scope f cdv A outer s H E).env (CxD P w K mg base N qual scope f cdv A outer s H E).xe := passes_of rfl
theorem cx_uc {N : List Str} {qual : Str} {scope : Scope} {f : Addr} {cdv : Value} {A : Around} {outer : List Env} {s : Shared} {H : Hp} {E : XK} : UC (CxD P w K mg base N qual scope f cdv A outer s H E) (EU H E) := uc_eu (X := CxD P w K mg base N qual scope f cdv A outer s H E)
def Body (P : Program) (w : World) (K : PySem.W.Frag) (mg : Str → Option Value) (base : Heap) (N : List Str) (qual : Str) (scope : Scope) (k : Nat) (O O' : List Nat) (body : List Stmt) (m : SM) : Prop :=
  ∀ (f : Addr) (cdv : Value) (A : Around) (outer : List Env) (s : Shared) (H : Hp) (E : XK), Room k (A.deeper (envOfC qual scope s.heap.objs.size f cdv)) → VSs (CxD P w K mg base N qual scope f cdv A outer s H E) (EU H E) O O' [] body m
def BodyF (P : Program) (w : World) (K : PySem.W.Frag) (mg : Str → Option Value) (base : Heap) (N : List Str) (qual : Str) (scope : Scope) (k : Nat) (body : List Stmt) (m : SM) : Prop :=
  ∀ (f : Addr) (cdv : Value) (A : Around) (outer : List Env) (s : Shared) (H : Hp) (E : XK), Room k (A.deeper (envOfC qual scope s.heap.objs.size f cdv)) → VSsF (CxD P w K mg base N qual scope f cdv A outer s H E) (EU H E) [] body m
def Meets (len : Nat) (N : List Str) (sp : FSp) (m : SM) : Prop := ∀ ds n Q xq, ds.length = len → sp.run ds n Q xq → m xq { nx := fun _ n' => Q .non n', rt := Q } (startD N ds) n
def MeetsF (len : Nat) (N : List Str) (sp : FSp) (m : SM) : Prop := ∀ ds n Q xq, ds.length = len → sp.run ds n Q xq → m xq { nx := fun _ _ => False, rt := Q } (startD N ds) n
def MeetsI (C : Str) (len : Nat) (N : List Str) (sp : FSp) (m : SM) : Prop := ∀ ds n Q xq, ds.length + 1 = len → sp.run ds n Q xq → m xq { nx := fun s' n' => ∃ fs, s'[0]? = some (some (.obj C fs)) ∧ Q (.obj C fs) n', rt := fun _ _ => False } (startD N (.obj C [] :: ds)) n
abbrev BindOk (x : Str) (params : Arguments) (body : List Stmt) (scope : Scope) (ps : List Str) : Prop := ∀ (kV doc pm : Value) (an : Option Addr) (cdv ct : Value) (us : List Value), us.length = ps.length → bindArgs (PySem.W.fnOf x x params body scope Value.none kV doc pm an cdv ct) { pos := us } = pure (ps.zip us)
theorem gfn {N ps : List Str} {k : Nat} {sp : FSp} {m : SM} {O' : List Nat} (F : FunD K x x params body scope [] [] f fd) (hg : mg x = some (.ref f)) (Sc : FnScope N ps scope) (hb : BindOk x params body scope ps)
    (B : Body P w K mg base N x scope k [] O' body m) (hm : Meets ps.length N sp m) : GFn P w K mg base x (k + 1) ps (lift K ps.length sp) :=
  ⟨f, fd, hg, F.kp, F.bindsN hb, dfn F Sc (fun cdv A outer s H E hr => B f cdv A outer s H E hr) hm⟩
theorem gfnF {N ps : List Str} {k : Nat} {sp : FSp} {m : SM} (F : FunD K x x params body scope [] [] f fd) (hg : mg x = some (.ref f)) (Sc : FnScope N ps scope) (hb : BindOk x params body scope ps)
    (B : BodyF P w K mg base N x scope k body m) (hm : MeetsF ps.length N sp m) : GFn P w K mg base x (k + 1) ps (liftF K ps.length sp) :=
  ⟨f, fd, hg, F.kp, F.bindsN hb, dfnF F Sc (fun cdv A outer s H E hr => B f cdv A outer s H E hr) hm⟩
end
def spNever : FSp := ⟨fun _ _ _ _ => False, fun _ _ _ _ _ _ h => h⟩
end DL
namespace DL
open PySem PySem.Spec PyProof.Rows L2
variable [TabC]
/-! ### classes -/
def GMk (P : Program) (w : World) (K : PySem.W.Frag) (mg : Str → Option Value) (base : Heap) (x : Str) (C : Str) (k : Nat) (ps : List Str) (dds : List D) (sp : FSp) : Prop := ∃ f fd us dvs, mg x = some (.ref (He.ga K C)) ∧ Mk K (He.ga K C) f ∧ Binds K fd ps us ∧ Vals dvs us ∧ (∀ aS H A, RepL K aS H A dds dvs) ∧
  (∀ ds n Q xq, sp.run ds n Q xq → sp.run ds n (fun d n' => (∃ fs, d = .obj C fs) ∧ Q d n') xq) ∧ FnOk P w K mg base (CX P w) k f fd ps (liftI K C ps.length sp)
def GMe (P : Program) (w : World) (K : PySem.W.Frag) (mg : Str → Option Value) (base : Heap) (C : Str) (m : Str) (k : Nat) (ps : List Str) (dds : List D) (L : Sp) : Prop := ∃ f fd us dvs, Cls K (He.ga K C) ∧ Meth K (He.ga K C) m f ∧ Binds K fd ps us ∧ Vals dvs us ∧ (∀ aS H A, RepL K aS H A dds dvs) ∧ FnOk P w K mg base (CX P w) k f fd ps L
section
variable {X : Cx} {E : XK} {O : List Nat} {e o : Expr} {es : List Expr} {mo : EM D} {ml : EM (List D)} {pos p apos : Pos} {x m : Str} {C : Str} {ps : List Str} {k k' : Nat} {sp : FSp} {dds : List D}
theorem vf_mk (tk : TK X E) {len : Nat} (hl : ps.length = len) (G : GMk X.prog X.w X.K X.mg X.base x C k ps dds sp) (hr : Room k' X.A) (hk : k + 1 ≤ k') (hg : Gl X x) (ha : VA Rep X E O (e :: es) ml) (hdb : (x == ("__debug__" : Str)) = false := by decide)
    (he : starEach (e :: es) X.env = (false, eval e X.env) :: starEach es X.env := by rfl) (hpl : (backTo pos (starEach es X.env)).any (·.1) = false := by rfl) : VF X E O (.Call (.Name x p) (e :: es) [] pos) (eMake len sp dds ml) := by
  subst hl
  obtain ⟨f, fd, us, dvs, h1, h2, h3, h4, h5, h6, h7⟩ := G
  exact vf_make tk h2 h7 (DL.Room.le hr hk) hg h1 h3 h4 h5 h6 ha hdb he hpl
theorem ve_me (tk : TK X E) {len : Nat} {pl : Sem Bool} (hl : ps.length = len) (G : GMe X.prog X.w X.K X.mg X.base C m k ps dds (lift X.K len sp)) (hr : Room k' X.A) (hk : k ≤ k') (ho : VE X E O o mo) (ha : VA Rep X E O (e :: es) ml)
    (he : starEach (e :: es) X.env = (false, eval e X.env) :: starEach es X.env := by rfl) (hpl : (backTo pos (starEach es X.env)).any (·.1) = false := by rfl)
    (hev : eval ((o.Attribute m apos).Call (e :: es) [] pos) X.env = (do let ov ← eval o X.env; standAt apos.atName; let __x ← holding [ov] (getMethod ov m pl); match __x with | (f, first) => callWith pos f first (backTo pos (starEach (e :: es) X.env)) (backToKw pos (keywordEach [] X.env))) := by rfl) :
    VE X E O (.Call (.Attribute o m apos) (e :: es) [] pos) (eMeth C m len sp dds mo ml) := by
  subst hl
  obtain ⟨f, fd, us, dvs, h1, h2, h3, h4, h5, h6⟩ := G
  exact ve_meth (pe := fun _ _ => True) ho ha (fun p1 p2 => pe_meth p1 h1 h2 h6 (DL.Room.le hr hk) h3 h4 (passes_call tk fun _ _ _ _ h => h) p2 he hpl hev) h5
theorem ve_me0 (tk : TK X E) {len : Nat} {pl : Sem Bool} (hl : ps.length = len) (G : GMe X.prog X.w X.K X.mg X.base C m k ps dds (lift X.K len sp)) (hr : Room k' X.A) (hk : k ≤ k') (ho : VE X E O o mo)
    (hev : eval ((o.Attribute m apos).Call [] [] pos) X.env = (do let ov ← eval o X.env; standAt apos.atName; let __x ← holding [ov] (getMethod ov m pl); match __x with | (f, first) => callWith pos f first (backTo pos (starEach [] X.env)) (backToKw pos (keywordEach [] X.env))) := by rfl) :
    VE X E O (.Call (.Attribute o m apos) [] [] pos) (eMeth C m len sp dds mo eNil) := by
  subst hl
  obtain ⟨f, fd, us, dvs, h1, h2, h3, h4, h5, h6⟩ := G
  obtain ⟨mn1, t1, p1, f1⟩ := ho
  refine ⟨mn_meth mn1 (fun _ _ _ _ _ hq h => hq _ _ h), _, pe_meth0 p1 h1 h2 h6 (DL.Room.le hr hk) h3 h4 (passes_call tk fun _ _ _ _ h => h) hev, fun aS A0 H0 σ H s n xq Q S L hm => ?_⟩
  refine f1 aS A0 H0 σ H s n xq _ S L (mn1 _ _ _ _ _ (fun d n1 q v H1 k1 st1 r1 => ?_) hm)
  obtain ⟨fs, ed, hlk, q⟩ := q
  subst ed
  have r1' := r1
  rw [Rep] at r1'
  obtain ⟨a, dx, ys, ev, na, hq, rf⟩ := r1'
  have hy : ys.lookup m = none := by
    rcases repF_look m rf with z | ⟨_, _, z, _⟩
    · exact z.2
    · rw [hlk] at z; cases z
  refine ⟨a, dx, ys, ev, hq, hy, ?_⟩
  subst ev
  exact (S.step k1 st1).call L q.1 (RepL.cons r1 (h5 aS H1 _)) (sp.mn _ _ _ _ _ (fun d n' w v H' kp st r => w v H' (k1.trans kp) st r) q.2)
end
end DL
namespace DL
open PySem PySem.Spec PyProof.Rows L2
variable [TabC]
def sSetF (i : Nat) (m : EM D) : SM := fun xq de s n => i < s.length ∧ sSet i m xq de s n
def sParFF (i j : Nat) (ma mb : EM D) : SM := fun xq de s n => i < s.length ∧ j < s.length ∧ sPar i j ma mb (fun _ _ => False) de s n
def sParEF (i j : Nat) (ma mb : EM D) : SM := fun xq de s n => j < s.length ∧ sPar i j ma mb xq de s n
def eOwn (i : Nat) : EM (List D) := fun xq s n Q => ∃ ds, s[i]? = some (some (.lst ds)) ∧ Q ds n
def GOk (g : DG) : Prop := ∀ d s Q, g d s Q → ∃ s', Q s'
def GsOk (g : DGs) (n : Nat) : Prop := ∀ ds s Q, g ds s Q → ds.length = n ∧ ∃ s', Q s'
theorem gok_nm {i : Nat} : GOk (gNm i) := fun d s Q h => ⟨_, h⟩
theorem gok_tp {g : DGs} {n : Nat} (h : GsOk g n) : GOk (gTp g) := fun d s Q ⟨ds, _, q⟩ => (h ds s Q q).2
theorem gsok_nil : GsOk gsNil 0 := fun ds s Q ⟨e, q⟩ => ⟨by rw [e]; rfl, _, q⟩
theorem gsok_cons {g : DG} {r : DGs} {n : Nat} (h : GOk g) (h2 : GsOk r n) : GsOk (gsCons g r) (n + 1) := fun ds s Q ⟨d, dr, e, q⟩ => by
  obtain ⟨s', q⟩ := h _ _ _ q
  obtain ⟨e2, q⟩ := h2 _ _ _ q
  exact ⟨by rw [e, List.length_cons, e2], q⟩
section
variable {X : Cx} {E : XK} {O OL : List Nat} {a b c e : Expr} {ma mb mc m : EM D} {pos : Pos} {i j : Nat} {x y : Str}
theorem vs_parEF {px py pt : Pos} {kt k2 pt2} (hi : i ∉ O) (hj : j ∉ O) (hj0 : j ≠ 0) (hc : X.calm = true) (hN : X.N.Nodup) (hNi : X.N[i]? = some x) (hNj : X.N[j]? = some y) (hij : i ≠ j) (hx : X.env.scope.names.lookup x = some .local) (hy : X.env.scope.names.lookup y = some .local)
    (ha : VE X E O a ma) (hb : VF X E O b mb) (hw : swappedStores [.Tuple [.Name x px, .Name y py] kt pt] (.Tuple [a, b] k2 pt2) X.env = pure (some [x, y]))
    (hs : swapsWithSole [.Tuple [.Name x px, .Name y py] kt pt] (.Tuple [a, b] k2 pt2) pos.line X.env = pure false := by rfl) (hs1 : starEach [a, b] X.env = (false, eval a X.env) :: starEach [b] X.env := by rfl) (hs2 : starEach [b] X.env = (false, eval b X.env) :: starEach [] X.env := by rfl) :
    VS X E O (j :: O) OL (.Assign [.Tuple [.Name x px, .Name y py] kt pt] (.Tuple [a, b] k2 pt2) pos) (sParEF i j ma mb) := by
  obtain ⟨mna, ta, pa, fa⟩ := ha
  obtain ⟨mnb, tb, pb, fb⟩ := hb
  refine ⟨_, ps_par hc hN hNi hNj hij hx hy (pa_cons pa (pa_cons pb pa_nil hs2) hs1) hw hs, fun aS A0 H0 σ H s n xq de De S L k h => ?_⟩
  obtain ⟨hl2, h⟩ := h
  refine fa aS A0 H0 σ H s n _ _ S L (mna _ _ _ _ _ (fun d1 n1 q v1 H1 k1 st1 r1 => ?_) h)
  have S1 := S.step k1 st1
  refine fb aS _ H0 σ H1 s n1 _ _ S1 L (mnb _ _ _ _ _ (fun d2 n2 q2 p2 H2 z2 k2 st2 o2 => ?_) q)
  refine ⟨_, _, rfl, k.nx _ _ _ _ ((S1.set hi r1).own hj hj0 (by rw [List.length_set]; exact hl2) z2 k2 st2 ?_) q2⟩
  rw [AV.set hi]
  exact o2
end
section
variable {X : Cx} {E : XK} {O OB OL vs hid hs : List Nat} {tg e iter kx : Expr} {ifs : List Expr} {m me mk : EM D} {mi : EM (List D)} {mt : EM Bool} {mb : SM} {g : DG} {scope : Scope} {pos : Pos} {own : List (Str × Nat)} {ws : List Nat}
theorem xf_lc (hh : own.map (·.2) ++ hid = hs) (hc : X.calm = true) (hN : X.N.Nodup) (hi : VI X E O OB hid tg iter mi) (ok : BlkOk X.N X.env.scope scope own) (hown : ∀ j ∈ own.map (·.2), j ∉ OB) (hws : ∀ j ∈ ws, j ∈ own.map (·.2))
    (hg : ∀ c : Bk, VG (Cx.bk X scope c) OB ws tg g) (ht : ∀ c : Bk, VTs (Cx.bk X scope c) EF OB ifs mt) (he : ∀ c : Bk, VE (Cx.bk X scope c) EF OB e me) (hs' : ∀ x, foldedSetIterable iter X.env x = pure x := by intro _; rfl) :
    VF X E O (.ListComp e [⟨tg, iter, ifs, 0⟩] scope pos) (eLc mi hs g mt me) := hh ▸ vf_lc hc hN hi ok hown hws hg ht he hs'
theorem xf_dc (hh : own.map (·.2) ++ hid = hs) (hc : X.calm = true) (hN : X.N.Nodup) (hi : VI X E O OB hid tg iter mi) (ok : BlkOk X.N X.env.scope scope own) (hown : ∀ j ∈ own.map (·.2), j ∉ OB) (hws : ∀ j ∈ ws, j ∈ own.map (·.2))
    (hg : ∀ c : Bk, VG (Cx.bk X scope c) OB ws tg g) (ht : ∀ c : Bk, VTs (Cx.bk X scope c) EF OB ifs mt) (hk : ∀ c : Bk, VE (Cx.bk X scope c) EF OB kx mk) (he : ∀ c : Bk, VE (Cx.bk X scope c) EF OB e me) (hs' : ∀ x, foldedSetIterable iter X.env x = pure x := by intro _; rfl) :
    VF X E O (.DictComp kx e [⟨tg, iter, ifs, 0⟩] scope pos) (eDc mi hs g mt mk me) := hh ▸ vf_dc hc hN hi ok hown hws hg ht hk he hs'
theorem xf_lcD {p : Ev → Option D} {f : List (Key × D) → List D} (hh : own.map (·.2) ++ [] = hs) (hc : X.calm = true) (hN : X.N.Nodup) (hi : VD X O tg iter p f) (ok : BlkOk X.N X.env.scope scope own) (hown : ∀ j ∈ own.map (·.2), j ∉ O) (hws : ∀ j ∈ ws, j ∈ own.map (·.2))
    (hg : ∀ c : Bk, VG (Cx.bk X scope c) O ws tg g) (ht : ∀ c : Bk, VTs (Cx.bk X scope c) EF O ifs mt) (he : ∀ c : Bk, VE (Cx.bk X scope c) EF O e me) (hs' : ∀ x, foldedSetIterable iter X.env x = pure x := by intro _; rfl) :
    VF X E O (.ListComp e [⟨tg, iter, ifs, 0⟩] scope pos) (eLcD p f hs g mt me) := hh ▸ vf_lcD hc hN hi ok hown hws hg ht he hs'
theorem xf_dcD {p : Ev → Option D} {f : List (Key × D) → List D} (hh : own.map (·.2) ++ [] = hs) (hc : X.calm = true) (hN : X.N.Nodup) (hi : VD X O tg iter p f) (ok : BlkOk X.N X.env.scope scope own) (hown : ∀ j ∈ own.map (·.2), j ∉ O) (hws : ∀ j ∈ ws, j ∈ own.map (·.2))
    (hg : ∀ c : Bk, VG (Cx.bk X scope c) O ws tg g) (ht : ∀ c : Bk, VTs (Cx.bk X scope c) EF O ifs mt) (hk : ∀ c : Bk, VE (Cx.bk X scope c) EF O kx mk) (he : ∀ c : Bk, VE (Cx.bk X scope c) EF O e me) (hs' : ∀ x, foldedSetIterable iter X.env x = pure x := by intro _; rfl) :
    VF X E O (.DictComp kx e [⟨tg, iter, ifs, 0⟩] scope pos) (eDcD p f hs g mt mk me) := hh ▸ vf_dcD hc hN hi ok hown hws hg ht hk he hs'
/-- over a list that a slot owns -/
theorem vi_ownS {x : Str} {i : Nat} (hO : O.filter (· != i) = OB) (hi : i ∈ O) (hN : X.N[i]? = some x) (hv : Vis X.env.scope x) (hd : (x == ("__debug__" : Str)) = false := by decide) (hcd : (x == ("__classdict__" : Str)) = false := by decide) :
    VI X E O OB [i] tg (.Name x pos) (eOwn i) := hO ▸ vi_own hi hN hv hd hcd
end
end DL
namespace DL
open PySem PySem.Spec PyProof.Rows L2
variable [TabC]
/-! ### the draws -/
abbrev rAbs : List V → Hp → VK → Prop := fun xs H Q => ∃ i, xs = [.int i] ∧ Q (.int (if i < 0 then -i else i)) H
abbrev rInt1 : List V → Hp → VK → Prop := fun xs H Q => (∃ i, xs = [V.int i] ∧ Q (V.int i) H) ∨ ∃ k, xs = [V.bl k] ∧ Q (V.int (if k = true then 1 else 0)) H
abbrev rLenT (K : PySem.W.Frag) : List V → Hp → VK → Prop := fun xs H Q => ∃ x n, xs = [x] ∧ LenV K x H n ∧ Q (V.int (n : Nat)) H
abbrev rAdd : R2 := rI0 fun i j => .int (i + j)
abbrev rMul : R2 := rI CMul fun i j => .int (i * j)
abbrev rMod : R2 := rI (fun _ j => 0 < j) fun i j => .int (i % j)
abbrev rDiv : R2 := rI CDivW fun i j => .int (i / j)
abbrev rPow : R2 := rI CPow fun i j => .int (i ^ j.toNat)
def tS (K : PySem.W.Frag) (j : Int) : TE := tOp (rIxL K) (tVar 0) (tC (.int j))
def tPut (te : TE) (j : Int) : TS := tAsg te (gSub (tVar 0) (tC (.int j)) rSetL)
def t_take (K : PySem.W.Frag) : TS :=
  tSeq (tPut (tOp rAdd (tS K 4) (tC (.int 1))) 4)
  (tSeq (tWhile (tAnd (tTest (tOp rEq (tS K 2) (tC (.int 0)))) (tTest (tOp (rI0 fun i j => .bl (decide (i < j))) (tS K 1) (tCB (rLenT K) (tCons (tS K 0) tNil)))))
    (tSeq (tAsg (tCB rAbs (tCons (tOp (rIxL K) (tS K 0) (tS K 1)) tNil)) (gName 2))
    (tSeq (tPut (tOp rAdd (tS K 1) (tC (.int 1))) 1)
      (tIfS (tTest (tOp (rI0 fun i j => .bl (decide (j ≤ i))) (tVar 2) (tOp rPow (tC (.int 10)) (tC (.int 18))))) (tPut (tVar 2) 2)
        (tPut (tOp rMod (tCB rInt1 (tCons (tOp rAdd (tOp rAdd (tOp rMul (tS K 3) (tC (.int 131))) (tVar 2)) (tC (.int 1))) tNil)) (tC (.int 2147483647))) 3)))))
  (tSeq (tIfS (tTest (tOp (rI0 fun i j => .bl (decide (j < i))) (tS K 2) (tC (.int 0))))
      (tSeq (tAsg (tOp rMod (tCB rInt1 (tCons (tS K 2) tNil)) (tVar 1)) (gName 3)) (tSeq (tPut (tOp rDiv (tS K 2) (tVar 1)) 2) (tRet (tVar 3)))) tNext)
  (tSeq (tAsg (tOp rMod (tCB rInt1 (tCons (tOp rPow (tOp rAdd (tOp rAdd (tS K 3) (tOp rMul (tC (.int 7919)) (tS K 4))) (tC (.int 5))) (tC (.int 3))) tNil)) (tC (.int 1000000007))) (gName 4))
  (tSeq (tAsg (tOp rMod (tCB rInt1 (tCons (tOp rPow (tOp rAdd (tVar 4) (tOp rMul (tC (.int 31)) (tS K 4))) (tC (.int 3))) tNil)) (tC (.int 998244353))) (gName 4))
    (tRet (tOp rMod (tCB rInt1 (tCons (tOp rDiv (tVar 4) (tC (.int 3))) tNil)) (tVar 1)))))))
def sp_take (cl : Str → Addr) : FSp := ⟨fun ds n Q _ => ∃ k : Int, ds = [.st, .int k] ∧ 0 < k ∧ k < 2 ^ 32 ∧ n < 2 ^ 32 ∧ ∀ r : Int, 0 ≤ r → r < k → Q (.int r) (n + 1), fun _ _ _ _ _ hq ⟨k, h1, h2, h3, h4, h⟩ => ⟨k, h1, h2, h3, h4, fun r a b => hq _ _ (h r a b)⟩⟩
section
variable {K : PySem.W.Frag} {aS a0 : Addr} {σ : L2.St} {H : Hp} {i g m d : Int}
abbrev l5 (a0 : Addr) (i g m d : Int) : List V := [.ref a0, .int i, .int g, .int m, .int d]
theorem tS_0 {Q : VK} (h : σ[0]? = some (some (.ref aS))) (hs : H aS = some (.lst (l5 a0 i g m d))) (q : Q (.ref a0) H) : tS K 0 σ H Q := ⟨.ref aS, h, aS, _, 0, _, rfl, rfl, SqL.of hs, rfl, q⟩
theorem tS_1 {Q : VK} (h : σ[0]? = some (some (.ref aS))) (hs : H aS = some (.lst (l5 a0 i g m d))) (q : Q (.int i) H) : tS K 1 σ H Q := ⟨.ref aS, h, aS, _, 1, _, rfl, rfl, SqL.of hs, rfl, q⟩
theorem tS_2 {Q : VK} (h : σ[0]? = some (some (.ref aS))) (hs : H aS = some (.lst (l5 a0 i g m d))) (q : Q (.int g) H) : tS K 2 σ H Q := ⟨.ref aS, h, aS, _, 2, _, rfl, rfl, SqL.of hs, rfl, q⟩
theorem tS_3 {Q : VK} (h : σ[0]? = some (some (.ref aS))) (hs : H aS = some (.lst (l5 a0 i g m d))) (q : Q (.int m) H) : tS K 3 σ H Q := ⟨.ref aS, h, aS, _, 3, _, rfl, rfl, SqL.of hs, rfl, q⟩
theorem tS_4 {Q : VK} (h : σ[0]? = some (some (.ref aS))) (hs : H aS = some (.lst (l5 a0 i g m d))) (q : Q (.int d) H) : tS K 4 σ H Q := ⟨.ref aS, h, aS, _, 4, _, rfl, rfl, SqL.of hs, rfl, q⟩
theorem gs_put {j : Int} {jj : Nat} {v : V} {Q : L2.St → Hp → Prop} (h : σ[0]? = some (some (.ref aS))) (hs : H aS = some (.lst (l5 a0 i g m d))) (hj : ixN 5 j = some jj) (q : Q σ (upd H aS (.lst ((l5 a0 i g m d).set jj v)))) : gSub (tVar 0) (tC (.int j)) rSetL v σ H Q :=
  ⟨.ref aS, h, aS, _, j, jj, rfl, rfl, hs, hj, q⟩
theorem kp_put {H0 : Hp} {o : HO} (k : KpS aS H0 H) : KpS aS H0 (upd H aS o) := fun b u e z => by rw [upd_ne z]; exact k b u e z
theorem pow3 {x : Int} (h0 : 0 ≤ x) (h : x < 2 ^ 63) : CPow x 3 := ⟨by decide, by decide, by omega⟩
theorem pow3b {x d : Int} (h0 : 0 ≤ x) (h1 : x < 1000000007) (h2 : 0 ≤ d) (h3 : d < 2 ^ 33) : CPow (x + 31 * (d + 1)) 3 := pow3 (by omega) (by omega)
theorem ifT {p : Prop} [Decidable p] {A B : Prop} (h : p) (a : A) : if decide p = true then A else B := by rw [if_pos (decide_eq_true h)]; exact a
theorem ifF {p : Prop} [Decidable p] {A B : Prop} (h : ¬ p) (a : B) : if decide p = true then A else B := by rw [if_neg (by rw [decide_eq_true_eq]; exact h)]; exact a
/-- all but the state is as it was -/
def EqS (aS : Addr) (H H' : Hp) : Prop := ∀ b, b ≠ aS → H' b = H b
theorem EqS.refl : EqS aS H H := fun _ _ => rfl
theorem EqS.kp {H' : Hp} (k : EqS aS H H') : KpS aS H H' := fun b u e z => .of ((k b z).trans e)
theorem eq_put {H0 : Hp} {o : HO} (k : EqS aS H0 H) : EqS aS H0 (upd H aS o) := fun b z => by rw [upd_ne z]; exact k b z
theorem EqS.tabs {H' : Hp} {xs : List V} {T : List (Addr × Str)} (k : EqS aS H H') (hs : H aS = some (.lst xs)) (t : LamX.Tabs T H) : LamX.Tabs T H' := fun p hp => by
  obtain ⟨ps, h1, h2, h3⟩ := t p hp
  refine ⟨ps, (k _ fun z => by rw [z, hs] at h1; cases h1).trans h1, h2, fun pos cv hc => ?_⟩
  obtain ⟨c, e1, e2⟩ := h3 pos cv hc
  refine ⟨c, e1, (k _ fun z => ?_).trans e2⟩
  rw [z, hs] at e2
  have e2 : some (HO.lst xs) = some (HO.ext _) := e2
  cases e2
theorem EqS.tba {H' : Hp} {xs ys : List V} (k : EqS aS H H') (hs : H aS = some (.lst xs)) (hs' : H' aS = some (.lst ys)) (t : TbA H) : TbA H' := ⟨k.tabs hs t.1, fun b ps e => by
  have nb : b ≠ aS := fun z => by rw [z, hs'] at e; cases e
  rw [k b nb] at e
  exact t.2 b ps e⟩
theorem pure_take (cl : Str → Addr) (vs : List V) (H : Hp) (Q : VK) (E : XK) (h : lift K 2 (sp_take cl) vs H Q E) : t_take K { nx := fun _ H' => Q .non H', rt := Q } (L2.start ["_law_state", "_law_many", "_law_cell", "_law_digit", "_law_mixed"] vs) H := by
  obtain ⟨aS, A0, ds, n, xq, hl, r, st, av, L, k, e, hk0, hk1, hn, q⟩ := h
  subst e
  rw [RepL] at r
  obtain ⟨v1, vr, e1, r1, r⟩ := r
  rw [RepL] at r
  obtain ⟨v2, vr2, e2, r2, r⟩ := r
  rw [RepL] at r
  simp only [Rep] at r1 r2
  subst r e2 e1 r1 r2
  have q : ∀ (r : Int) H', 0 ≤ r → r < k → EqS aS H H' → StA K aS H' (n + 1) → Q (.int r) H' := fun r H' a b kp st => q r a b (.int r) H' kp.kp st rep_int
  obtain ⟨a0, cs, i, g, m, d, hs, ha, ⟨o, ho⟩, hi, hg, hm0, hm1, hd0, hd1, htb⟩ := st
  have sta : ∀ {H' : Hp} {i g m : Int}, EqS aS H H' → H' aS = some (.lst (l5 a0 i g m (d + 1))) → 0 ≤ i → 0 ≤ g → 0 ≤ m → m < 2147483647 → StA K aS H' (n + 1) := fun {H' i g m} kp e h1 h2 h3 h4 => ⟨a0, cs, i, g, m, d + 1, e, ha, ⟨o, (kp _ ha).trans ho⟩, h1, h2, h3, h4, by omega, by omega, kp.tba hs e htb⟩
  have z0 : ∀ {c e1 e2 : Option V}, ([some (.ref aS), some (.int k), c, e1, e2] : L2.St)[0]? = some (some (.ref aS)) := rfl
  -- the count
  refine tS_4 (σ := [some (.ref aS), some (.int k), none, none, none]) rfl hs ⟨d, 1, rfl, rfl, gs_put rfl hs rfl ?_⟩
  have hs1 : upd H aS (.lst ((l5 a0 i g m d).set 4 (.int (d + 1)))) aS = some (.lst (l5 a0 i g m (d + 1))) := upd_same
  have kp1 : EqS aS H (upd H aS (.lst ((l5 a0 i g m d).set 4 (.int (d + 1))))) := eq_put EqS.refl
  -- the loop
  refine ⟨fun μ σ' H' => ∃ (i g m : Int) (c : Option V), σ' = [some (.ref aS), some (.int k), c, none, none] ∧ H' aS = some (.lst (l5 a0 i g m (d + 1))) ∧ EqS aS H H' ∧ 0 ≤ i ∧ 0 ≤ g ∧ 0 ≤ m ∧ m < 2147483647 ∧ μ = (cs.length - i).toNat,
    ⟨_, i, g, m, none, rfl, hs1, kp1, hi, hg, hm0, hm1, rfl⟩, fun μ σ' H' w => ?_⟩
  obtain ⟨i, g, m, c, rfl, hs, kp, hi, hg, hm0, hm1, hμ⟩ := w
  have ho' : H' a0 = some (.frz o (.lst (cs.map V.int))) := (kp _ ha).trans ho
  have rest : tSeq (tIfS (tTest (tOp (rI0 fun i j => .bl (decide (j < i))) (tS K 2) (tC (.int 0))))
      (tSeq (tAsg (tOp rMod (tCB rInt1 (tCons (tS K 2) tNil)) (tVar 1)) (gName 3)) (tSeq (tPut (tOp rDiv (tS K 2) (tVar 1)) 2) (tRet (tVar 3)))) tNext)
    (tSeq (tAsg (tOp rMod (tCB rInt1 (tCons (tOp rPow (tOp rAdd (tOp rAdd (tS K 3) (tOp rMul (tC (.int 7919)) (tS K 4))) (tC (.int 5))) (tC (.int 3))) tNil)) (tC (.int 1000000007))) (gName 4))
    (tSeq (tAsg (tOp rMod (tCB rInt1 (tCons (tOp rPow (tOp rAdd (tVar 4) (tOp rMul (tC (.int 31)) (tS K 4))) (tC (.int 3))) tNil)) (tC (.int 998244353))) (gName 4))
      (tRet (tOp rMod (tCB rInt1 (tCons (tOp rDiv (tVar 4) (tC (.int 3))) tNil)) (tVar 1))))) { nx := fun _ H' => Q .non H', rt := Q } [some (.ref aS), some (.int k), c, none, none] H' := by
    refine tS_2 rfl hs ⟨g, 0, rfl, rfl, _, rfl, ?_⟩
    by_cases hg0 : 0 < g
    · refine ifT hg0 ?_
      refine tS_2 rfl hs (.inl ⟨g, rfl, .int k, rfl, g, k, rfl, rfl, hk0, ?_⟩)
      refine tS_2 rfl hs ⟨.int k, rfl, g, k, rfl, rfl, ⟨hk0, ?_⟩, gs_put rfl hs rfl ⟨.int (g % k), rfl, q _ _ (Int.emod_nonneg _ (by omega)) (Int.emod_lt_of_pos _ hk0) (eq_put kp) (sta (eq_put kp) upd_same hi (Int.ediv_nonneg hg (by omega)) hm0 hm1)⟩⟩
      have : k.natAbs < 2 ^ 32 := by omega
      have h2 : k.natAbs.log2 < 32 := (Nat.log2_lt (by omega)).mpr this
      omega
    · refine ifF hg0 ?_
      have hp1 : 0 ≤ (m + 7919 * (d + 1) + 5) := by omega
      refine tS_3 rfl hs (tS_4 rfl hs ⟨7919, d + 1, rfl, rfl, .inl ⟨by decide, by decide⟩, m, _, rfl, rfl, _, 5, rfl, rfl, _, 3, rfl, rfl, pow3 (by omega) (by omega), .inl ⟨_, rfl, _, 1000000007, rfl, rfl, (show (0 : Int) < 1000000007 by decide), ?_⟩⟩)
      have x0 := Int.emod_nonneg ((m + 7919 * (d + 1) + 5) ^ (3 : Int).toNat) (show (1000000007 : Int) ≠ 0 by decide)
      have x1 := Int.emod_lt_of_pos ((m + 7919 * (d + 1) + 5) ^ (3 : Int).toNat) (show (0 : Int) < 1000000007 by decide)
      refine ⟨.int _, rfl, tS_4 rfl hs ⟨31, d + 1, rfl, rfl, .inl ⟨by decide, by decide⟩, _, _, rfl, rfl, _, 3, rfl, rfl, pow3b x0 x1 hd0 (by omega), .inl ⟨_, rfl, _, 998244353, rfl, rfl, (show (0 : Int) < 998244353 by decide), ?_⟩⟩⟩
      refine ⟨.int _, rfl, _, 3, rfl, rfl, ⟨by decide, by decide +kernel⟩, .inl ⟨_, rfl, .int k, rfl, _, k, rfl, rfl, hk0, q _ _ (Int.emod_nonneg _ (by omega)) (Int.emod_lt_of_pos _ hk0) kp (sta kp hs hi hg hm0 hm1)⟩⟩
  refine tS_2 rfl hs ⟨rfl, _, rfl, ?_⟩
  by_cases hg0 : g = 0
  · refine ifT (by rw [hg0]) ?_
    refine tS_1 rfl hs (tS_0 rfl hs ⟨.ref a0, cs.length, rfl, .inl ⟨_, .inl (.inr ⟨o, ho'⟩), by simp⟩, i, cs.length, rfl, rfl, _, rfl, ?_⟩)
    by_cases hlt : i < cs.length
    · refine ifT hlt ?_
      obtain ⟨j, rfl⟩ : ∃ j : Nat, i = j := ⟨i.toNat, by omega⟩
      have hj : j < cs.length := by omega
      have hat : atI (cs.map V.int) (j : Int) = some (.int cs[j]) := by
        unfold atI ixN
        rw [if_pos hi, List.length_map, if_pos hlt]
        simp [hj]
      refine ⟨fun σ' H' => ∃ (i' g m : Int) (c : Option V), σ' = [some (.ref aS), some (.int k), c, none, none] ∧ H' aS = some (.lst (l5 a0 i' g m (d + 1))) ∧ EqS aS H H' ∧ i' = j + 1 ∧ 0 ≤ g ∧ 0 ≤ m ∧ m < 2147483647, fun σ' H' z => ?_, ?_⟩
      · obtain ⟨i', g, m, c, e1, e2, e3, e4, e5, e6, e7⟩ := z
        exact ⟨(cs.length - i').toNat, by omega, i', g, m, c, e1, e2, e3, by omega, e5, e6, e7, rfl⟩
      · refine tS_0 rfl hs (tS_1 rfl hs ⟨a0, _, j, .int cs[j], rfl, rfl, .inl (.inr ⟨o, ho'⟩), hat, cs[j], rfl, ?_⟩)
        have hc0 : 0 ≤ (if cs[j] < 0 then -cs[j] else cs[j]) := by split <;> omega
        refine tS_1 (σ := [some (.ref aS), some (.int k), some (.int (if cs[j] < 0 then -cs[j] else cs[j])), none, none]) rfl hs ⟨j, 1, rfl, rfl, gs_put rfl hs rfl ?_⟩
        have hs2 : upd H' aS (.lst ((l5 a0 j g m (d + 1)).set 1 (.int (j + 1)))) aS = some (.lst (l5 a0 (j + 1) g m (d + 1))) := upd_same
        have kp2 : EqS aS H (upd H' aS (.lst ((l5 a0 j g m (d + 1)).set 1 (.int (j + 1))))) := eq_put kp
        refine ⟨.int _, rfl, 10, 18, rfl, rfl, ⟨by decide, by decide, by decide⟩, _, _, rfl, rfl, _, rfl, ?_⟩
        by_cases hbig : (10 : Int) ^ (18 : Int).toNat ≤ (if cs[j] < 0 then -cs[j] else cs[j])
        · refine ifT hbig ?_
          exact ⟨.int _, rfl, gs_put rfl hs2 rfl ⟨j + 1, _, m, _, rfl, upd_same, eq_put kp2, rfl, hc0, hm0, hm1⟩⟩
        · refine ifF hbig ?_
          refine tS_3 rfl hs2 ⟨m, 131, rfl, rfl, .inr ⟨by decide, by decide⟩, .int _, rfl, _, _, rfl, rfl, _, 1, rfl, rfl, .inl ⟨_, rfl, _, 2147483647, rfl, rfl, (show (0 : Int) < 2147483647 by decide), gs_put rfl hs2 rfl ⟨j + 1, g, _, _, rfl, upd_same, eq_put kp2, rfl, hg, Int.emod_nonneg _ (by decide), Int.emod_lt_of_pos _ (by decide)⟩⟩⟩
    · exact ifF hlt rest
  · exact ifF (fun z => hg0 (by cases z; rfl)) rest
end
end DL
namespace DL
open PySem PySem.Spec PyProof.Rows L2
variable [TabC]
/-! ### the first statement of a law -/
abbrev rListT (K : PySem.W.Frag) : List V → Hp → VK → Prop := fun xs H Q => ∃ p ys, xs = [.ref p] ∧ (SqL K H p ys ∨ SqT K H p ys) ∧ ∀ l, H l = none → Q (.ref l) (upd H l (.lst ys))
def t_fresh (K : PySem.W.Frag) : TS := tRet (tLst (tCons (tCB (rListT K) (tCons (tSl (rSlL K) (tVar 0) tNoPart (tPart (tC (.int 40)))) tNil)) (tCons (tC (.int 0)) (tCons (tC (.int 0)) (tCons (tC (.int 0)) (tCons (tC (.int 0)) tNil))))))
def spFresh (K : PySem.W.Frag) : Sp := fun vs H Q _ => ∃ (a : Addr) (ns : List Int), vs = [.ref a] ∧ SqL K H a (ns.map V.int) ∧ ∀ (l p : Addr) (cs : List Int) (H' : Hp), l ≠ p → H p = none → H l = none → Gr H H' → H' l = some (.lst (cs.map V.int)) → H' p = some (.lst (l5 l 0 0 0 0)) → Q (.ref p) H'
theorem cut_ints (ns : List Int) (lo hi : Option Int) : cutV (ns.map V.int) lo hi = (List.take (HT.sIx ns.length ns.length hi - HT.sIx ns.length 0 lo) (List.drop (HT.sIx ns.length 0 lo) ns)).map V.int := by
  unfold cutV
  rw [List.length_map, List.map_take, List.map_drop]
theorem pure_fresh {K : PySem.W.Frag} (vs : List V) (H : Hp) (Q : VK) (E : XK) (h : spFresh K vs H Q E) : t_fresh K { nx := fun _ H' => Q .non H', rt := Q } (L2.start ["_law_script"] vs) H := by
  obtain ⟨a, ns, rfl, hs, q⟩ := h
  refine ⟨.ref a, rfl, 40, rfl, a, _, rfl, hs, fun t ht => ?_⟩
  rw [cut_ints]
  generalize List.take (HT.sIx ns.length ns.length (some 40) - HT.sIx ns.length 0 none) (List.drop (HT.sIx ns.length 0 none) ns) = cs
  refine ⟨t, _, rfl, .inl (SqL.of upd_same), fun l hl => ⟨by rw [sizeLine_eq]; show 5 ≤ 16777216; decide, fun p hp => ?_⟩⟩
  have hlt : l ≠ t := fun z => by rw [z, upd_same] at hl; cases hl
  have hpl : p ≠ l := fun z => by rw [z, upd_same] at hp; cases hp
  have hpt : p ≠ t := fun z => by rw [z, upd_ne (Ne.symm hlt), upd_same] at hp; cases hp
  rw [upd_ne hlt] at hl
  rw [upd_ne hpl, upd_ne hpt] at hp
  have hl' : upd H t (.lst (cs.map V.int)) l = none := by rw [upd_ne hlt]; exact hl
  have hp' : upd (upd H t (.lst (cs.map V.int))) l (.lst (cs.map V.int)) p = none := by rw [upd_ne hpl, upd_ne hpt]; exact hp
  refine q l p cs _ (Ne.symm hpl) hp hl ((Gr.upd ht).trans ((Gr.upd hl').trans (Gr.upd hp'))) ?_ upd_same
  · rw [upd_ne (Ne.symm hpl)]
    exact upd_same
def spLaw (K : PySem.W.Frag) : Sp := fun vs H Q _ => ∃ (a : Addr) (ns : List Int), vs = [.ref a] ∧ SqL K H a (ns.map V.int) ∧ TbA H ∧ ∀ H', Q (.bl true) H'
/-- what stands at d is locked from here on -/
theorem pss_lock1 {X : Cx} {st : List Stmt} {t : TS} (h : PSs X st t) : PSs X st (fun D σ H => ∃ d u, H d = some u ∧ Mut (some u) ∧ ∀ od, t D σ (upd H d (.frz od u))) :=
  ⟨fun pins s σ H D inv ⟨d, u, at_, mu, run⟩ => Exists.elim (inv.lock at_ mu) fun od inv' => h.run pins s σ _ D inv' (run od)⟩
abbrev tFirst (K : PySem.W.Frag) : TS := tAsg (tCall (spFresh K) [] ET (tCons (tVar 0) tNil)) (gName 1)
section
variable {P : Program} {w : World} {K : PySem.W.Frag} {mg : Str → Option Value} {base : Heap} {x : Str} {params : Arguments} {st : Stmt} {rest : List Stmt} {scope : Scope} {f : Addr} {fd : FuncData}
theorem law_top {N : List Str} {k : Nat} {m : SM} {O' : List Nat} (F : FunD K x x params (st :: rest) scope [] [] f fd) (Sc : FnScope N ["_law_script"] scope) (hN : 2 ≤ N.length)
    (h1 : ∀ (cdv : Value) (A : Around) (outer : List Env) (s : Shared) (H : Hp) (E : XK), Room k (A.deeper (envOfC x scope s.heap.objs.size f cdv)) → PS (CxD P w K mg base N x scope f cdv A outer s H E) st (tFirst K))
    (hb : Body P w K mg base N x scope k [] O' rest m)
    (hm : m (fun _ _ => False) { nx := fun _ _ => False, rt := fun d _ => d = .bl true } (none :: some .st :: List.replicate (N.length - 2) none) 0) : FnOk P w K mg base (CX P w) (k + 1) f fd ["_law_script"] (spLaw K) := by
  refine F.ok Sc (fun vs H Q E h => ?_) (fun cdv A outer s H vs Q E hr h => ?_)
  · obtain ⟨a, ns, rfl, _⟩ := h
    rfl
  · obtain ⟨a, ns, rfl, hs, hT, hq⟩ := h
    obtain ⟨t, p, ft⟩ := hb f cdv A outer s H E hr
    refine ⟨_, pss_cons (h1 cdv A outer s H E hr) (pss_lock1 p), ?_⟩
    refine ⟨.ref a, rfl, a, ns, rfl, hs, fun l p cs H' hne hp hl kp hL hP => ?_⟩
    refine ⟨l, _, hL, trivial, fun od => ?_⟩
    obtain ⟨j, hj⟩ : ∃ j, N.length = j + 2 := ⟨N.length - 2, by omega⟩
    have es : (L2.start N [V.ref a]).set 1 (some (.ref p)) = some (.ref a) :: some (.ref p) :: List.replicate j none := by
      unfold L2.start
      have e : N.length - [V.ref a].length = j + 1 := by rw [hj]; rfl
      rw [e, List.replicate_succ]
      rfl
    show t _ ((L2.start N [V.ref a]).set 1 (some (.ref p))) _
    rw [es]
    have hj2 : N.length - 2 = j := by omega
    rw [hj2] at hm
    have hP' : upd H' l (.frz od (.lst (cs.map V.int))) p = some (.lst (l5 l 0 0 0 0)) := by rw [upd_ne (Ne.symm hne)]; exact hP
    have S : SR K p [] ⟨fun _ => False, none⟩ (upd H' l (.frz od (.lst (cs.map V.int)))) (some (.ref a) :: some (.ref p) :: List.replicate j none) (upd H' l (.frz od (.lst (cs.map V.int)))) (none :: some .st :: List.replicate j none) 0 := by
      refine ⟨by rw [List.length_cons, List.length_cons, List.length_cons, List.length_cons, List.length_replicate, List.length_replicate], fun i d e _ => ?_, (fun i hi => nomatch hi), (fun i j b hi => nomatch hi), KpS.refl, ⟨l, cs, 0, 0, 0, 0, hP', hne, ⟨od, upd_same⟩, by decide, by decide, by decide, by decide, by decide, by decide, tabs_poke ⟨hT.1.ext kp.1, fun b ps e => hT.2 b ps (kp.2 b ps e)⟩ hL (fun _ z => nomatch z) (fun _ z => nomatch z)⟩, (fun a h => h.elim), (fun hi => nomatch hi)⟩
      match i, e with
      | 0, e => cases e
      | 1, e => cases e; exact ⟨_, rfl, by rw [Rep]⟩
      | i + 2, e =>
        have e : (List.replicate j (none : Option D))[i]? = some (some d) := e
        rw [List.getElem?_replicate] at e
        split at e <;> cases e
    refine ft p _ _ _ _ _ 0 (fun _ _ => False) _ _ S (fun _ _ _ _ _ _ _ _ z => z.elim) ?_ hm
    refine ⟨fun _ _ _ _ _ z => z.elim, fun v H'' d n kp st r e => ?_, fun _ _ _ _ _ z => z.elim, fun _ _ _ _ _ z => z.elim⟩
    have e : d = .bl true := e
    subst e
    rw [Rep] at r
    subst r
    exact hq H''
end
end DL
namespace DL
open PySem PySem.Spec PyProof.Rows L2
variable [TabC]
theorem op_isBl {X : Cx} : OpR X (compareOp .Is) (fun x y H Q => ∃ a b, x = .bl a ∧ y = .bl b ∧ Q (.bl (a == b)) H) := fun _ s _ _ _ _ _ _ _ I rx ry ⟨a, b, ex, ey, q⟩ => by
  subst ex ey
  cases rx
  cases ry
  show wpAny _ _ ((isSame (Value.bool a) (Value.bool b)) >>= fun z => pure (Value.bool z)) _ _ s
  have e : (Value.bool a == Value.bool b) = (a == b) := by cases a <;> cases b <;> rfl
  have e2 : isSame (Value.bool a) (Value.bool b) = pure (a == b) := by
    rw [← e]
    rfl
  rw [e2]
  exact wpAny_bind (wpAny_pure (wpAny_pure (fin_bl I q rfl)))
def dIs (x y : D) : Option D := match x, y with
  | .bl a, .bl b => some (.bl (a == b))
  | _, _ => dIsN x y
theorem od_is {X : Cx} : OpD X (compareOp .Is) dIs := by
  obtain ⟨r, ho, hr⟩ := od_isN (X := X)
  refine ⟨_, OpR.or op_isBl ho, fun aS H A n d1 d2 d v1 v2 Q c r1 r2 e w => ?_⟩
  unfold dIs at e
  split at e
  · cases e
    exact .inl ⟨_, _, repB_bl r1, repB_bl r2, w _ H KpS.refl c.st rep_bl⟩
  · exact .inr (hr aS H A n d1 d2 d v1 v2 Q c r1 r2 e w)
section
variable {X : Cx} {E : XK} {O OB OL vs hid hs : List Nat} {tg e iter kx : Expr} {ifs : List Expr} {m me mk : EM D} {mi : EM (List D)} {mt : EM Bool} {mb : SM} {g : DG} {scope : Scope} {pos : Pos} {own : List (Str × Nat)} {ws : List Nat}
theorem xs_setLc {i : Nat} {y : Str} {py spos : Pos} (hh : own.map (·.2) ++ hid = hs) (hiO : i ∉ O) (hi0 : i ≠ 0) (hy : X.N[i]? = some y) (hyl : X.env.scope.names.lookup y = some .local)
    (hsw : swapsWith (.ListComp e [⟨tg, iter, ifs, 0⟩] scope pos) (some (.Name y py)) spos.line X.env = pure true) (hc : X.calm = true) (hN : X.N.Nodup) (hi : VI X E O OB hid tg iter mi) (ok : BlkOk X.N X.env.scope scope own) (hown : ∀ j ∈ own.map (·.2), j ∉ OB) (hws : ∀ j ∈ ws, j ∈ own.map (·.2))
    (hg : ∀ c : Bk, VG (Cx.bk X scope c) OB ws tg g) (ht : ∀ c : Bk, VTs (Cx.bk X scope c) EF OB ifs mt) (he : ∀ c : Bk, VE (Cx.bk X scope c) EF OB e me) (hs' : ∀ x, foldedSetIterable iter X.env x = pure x := by intro _; rfl) :
    VS X E O (i :: O) OL (.Assign [.Name y py] (.ListComp e [⟨tg, iter, ifs, 0⟩] scope pos) spos) (sSetF i (eLc mi hs g mt me)) := hh ▸ vs_setLc hiO hi0 hc hN hy hyl hsw hi ok hown hws hg ht he hs'
end
end DL
namespace ES
open PySem PySem.Spec PyProof.Rows L2
/-! ### the first line of an own error's __init__: super().__init__(..) -/
abbrev VI := "ValueError.__init__"
/-- no new table -/
def NoT (H H' : Hp) : Prop := ∀ b ps, H' b = some (.tbl ps) → H b = some (.tbl ps)
theorem NoT.upd {H H' : Hp} {p : Addr} {o : HO} (k : NoT H H') (ho : ∀ ps, o ≠ .tbl ps) : NoT H (L2.upd H' p o) := fun b ps e => by
  by_cases z : b = p
  · rw [z, upd_same] at e
    exact (ho _ (Option.some.inj e)).elim
  · rw [upd_ne z] at e
    exact k b ps e
theorem NoT.refl (H : Hp) : NoT H H := fun _ _ h => h
/-- a wrapper that is kept in sight -/
def mwO (u a : Addr) : HO := .ext fun h => h.get? u = some (PySem.W.kxs_mw VI a)
theorem mwO_ok {P : Program} {w : World} {H : Hp} {h : Heap} {u a : Addr} (e : h.get? u = some (PySem.W.kxs_mw VI a)) : ObjOk P w H h u (mwO u a) := ⟨e, ⟨_, e⟩, fun h1 h2 z k => k _ z⟩
theorem mwO_at {P : Program} {w : World} {H : Hp} {h : Heap} {u a : Addr} (ok : HOk P w H h) (e : H u = some (mwO u a)) : h.get? u = some (PySem.W.kxs_mw VI a) := (ok u _ e).1
section
variable {X : Cx} {pins : List (Addr × Obj)} {σ : L2.St} {H : Hp} {s : Shared} {a C u : Addr} {E : Value → Shared → Prop} {A : Around}
theorem run_mw {us : List Value} {Q : Value → Shared → Prop} (T : OexC X.K C) (I : Inv X pins σ H s) (e : H a = some (exo a C none)) (hu : s.heap.get? u = some (PySem.W.kxs_mw VI a)) (hl : us.length ≤ sizeLine) (h : ∀ s', Inv X pins σ H s' → Q .none s') :
    wpAny (model X.prog X.w) A (call (.ref u) us) Q E s := by
  obtain ⟨nm, q, N, bs, bm, sn, sub, ab, col, dd, k0, k1, k2, k3, k5, hC, hbm⟩ := T.cls
  obtain ⟨t1, ho⟩ := exo_at I.hok e
  obtain ⟨hp, g, d, t, os⟩ := s
  have kC : hp.get? C = _ := I.kIn _ _ hC
  have same : upd H a (exo a C none) = H := funext fun b => by
    by_cases hb : b = a
    · rw [hb, upd_same, e]
    · rw [upd_ne hb]
  refine wpAny_call (codeAny_of_tree ?_)
  show wpAny _ A.in1 (callAny (.ref u) ⟨us, []⟩) _ _ _
  unfold callAny
  refine wpAny_bind (wpAny_load hu ?_)
  simp only [PySem.W.kxs_mw]
  refine PySem.W.KFB.if_so (by decide) ?_
  refine wpAny_bind (PySem.W.check_bound_init F.excBase_ValueError.toExcCallFacts kC ho rfl ?_)
  refine wpAny_bind (wpAny_pure (wpAny_pure ⟨plainId_quiet F.excBase_ValueError.init.plain _, codeAny_builtin F.excBase_ValueError.initEntry ?_⟩))
  refine PySem.W.exc_init_tree (cls := .ref C) (t0 := t1) (dv := none) (c2 := .none) (c3 := .none) (b4 := .bool false) ho hl fun h' k hx _ => ?_
  have J := I.write (t' := t) (x := a) (e := a) (o := exo a C none) (by rw [e]; exact True.intro) (.inl rfl) k ⟨_, hx⟩ (exo_ok hx)
  rw [same] at J
  exact h _ J
end
end ES
namespace ES
open PySem PySem.Spec PyProof.Rows L2
/-- what the written part says of the __init__ (at f) of the error class at C, the function F of the text -/
structure SupF (P : Program) (K : PySem.W.Frag) (C f : Addr) (F : NdefX.NF) : Prop where
  lk : ∃ (oc : Value) (od : Option Addr) (doc pm ctv : Value) (osl : Array (Option Value)), K.lookup f = some ⟨oc, od, .func (F.fd doc pm ctv), osl⟩
  code : PySem.W.codeIn K (.ref F.c) F.qual = true
  file : ∃ (ccl : Value) (cdd : Option Addr) (vs : Array Value) (ccs : Array (Option Value)) (fl : Str) (tf : Tok), K.lookup F.c = some ⟨ccl, cdd, .fields vs, ccs⟩ ∧ vs[2]? = some (.str fl tf) ∧ ((P.main.file : Str) == fl) = true
  cell : ∃ (cc : Addr) (o : Value) (d : Option Addr) (sl : Array (Option Value)), F.cl = [(("__class__" : Str), cc)] ∧ K.lookup cc = some ⟨o, d, .cell (some (.ref C)), sl⟩
  own : PySem.W.mroIn K C (.ref C) = some true
  ini : PySem.W.ks_superIn K C C "__init__" = some (some (.builtin VI))
  ve : PySem.W.subIn K (.ref C) (.type "ValueError") = some true
  third : PySem.W.nsIn K cStatics "thirdparty.any" = some none
  top : (P.main.scope.names.lookup ("super" : Str)).isSome = false
/-- its scope -/
structure SupS (slf0 : Str) (N ps : List Str) (F : NdefX.NF) : Prop where
  sc : NdefX.NScope N ps ["__class__"] F.scope
  sup : F.scope.names.lookup ("super" : Str) = some .globalImplicit
  cls : F.scope.names.lookup ("__class__" : Str) = some .free
  slf : F.scope.names.lookup slf0 = some .local
  par : ∃ ar : Arg, (F.params.posonlyargs ++ F.params.args).head? = some ar ∧ ar.arg = slf0
  fst : N[0]? = some slf0
abbrev supCall (e : Expr) (p0 p1 p2 p3 : Pos) : Expr := .Call (.Attribute (.Call (.Name "super" p0) [] [] p1) "__init__" p2) [e] [] p3
section
variable {CX : CXT} {P : Program} {w : World} {K : PySem.W.Frag} {mg : Str → Option Value} {base : Heap} {N ps : List Str} {F : NdefX.NF} {f C a : Addr} {A : Around} {outer : List Env} {s0 : Shared} {H0 : Hp} {E0 : XK} {self : Str}
theorem sup_line {σ : L2.St} {H : Hp} {s : Shared} {e : Expr} {ta : TA} {body : List Stmt} {p0 p1 p2 p3 : Pos} {Q : Value → Shared → Prop} {E : Value → Shared → Prop} {pl : Sem Bool} (T : OexC K C) (SF : SupF P K C f F) (SS : SupS self N ps F) (hm : mg "super" = none)
    (I : Inv (NdefX.ncx CX P w K mg base N F f A outer s0 H0 E0) [] σ H s) (h0 : σ[0]? = some (some (.ref a))) (ea : H a = some (exo a C none))
    (ha : PA (NdefX.ncx CX P w K mg base N F f A outer s0 H0 E0) [e] ta)
    (hta : ∀ H', (∀ b u, H b = some u → H' b = some u) → NoT H H' → ta σ H' fun vs H1 => vs.length ≤ 1000 ∧ H1 a = some (exo a C none) ∧ (∀ b u, H' b = some u → H1 b = some u) ∧ ∀ s', Inv (NdefX.ncx CX P w K mg base N F f A outer s0 H0 E0) [] σ H1 s' → Q .none s')
    (hE : E = (NdefX.ncx CX P w K mg base N F f A outer s0 H0 E0).xe)
    (he : starEach [e] (NdefX.envF F f s0.heap.objs.size) = (false, eval e (NdefX.envF F f s0.heap.objs.size)) :: starEach [] (NdefX.envF F f s0.heap.objs.size))
    (hev : eval (supCall e p0 p1 p2 p3) (NdefX.envF F f s0.heap.objs.size) = (do
      let ov ← attributeBase (.Call (.Name "super" p0) [] [] p1) "__init__" (NdefX.envF F f s0.heap.objs.size) (eval (.Call (.Name "super" p0) [] [] p1) (NdefX.envF F f s0.heap.objs.size))
      standAt p2.atName
      let (g, first) ← holding [ov] (getMethod ov "__init__" pl)
      callWith p3 g first (backTo p3 (starEach [e] (NdefX.envF F f s0.heap.objs.size))) [])) :
    PySem.wpAt (model P w) (NdefX.ncx CX P w K mg base N F f A outer s0 H0 E0).A (.func body (NdefX.envF F f s0.heap.objs.size)) (eval (supCall e p0 p1 p2 p3) (NdefX.envF F f s0.heap.objs.size)) Q E s := by
  obtain ⟨cc, oc, dc, slc, ecl, lkc⟩ := SF.cell
  obtain ⟨ocf, odf, doc, pm, ctv, osl, lkf⟩ := SF.lk
  obtain ⟨ccl, cdd, vs, ccs, fl, tf, lkco, hvs, hfl⟩ := SF.file
  obtain ⟨ar, har, hself⟩ := SS.par
  have hkI : K.In s.heap := I.kIn
  obtain ⟨mL, hns, hloc⟩ := I.loc
  have kf : ∀ x, (NdefX.envF F f s0.heap.objs.size).kindOf x = F.scope.names.lookup x := fun x => rfl
  obtain ⟨u0, r0, lk0⟩ := hloc 0 self (.ref a) SS.fst h0 (.inl SS.slf)
  obtain rfl : u0 = Value.ref a := r0
  have hself0 : mL self = some (.ref a) := by
    rcases lk0 with ⟨_, q⟩ | ⟨q, _⟩
    · exact q
    · have q : F.scope.names.lookup self = some .cell ∨ F.scope.names.lookup self = some .free := q
      rw [SS.slf] at q
      rcases q with q | q <;> cases q
  obtain ⟨nm, qn, NN, bs, bm, sn, sub, ab, col, dd, k0, k1, k2, k3, k5, hC, hbm⟩ := T.cls
  obtain ⟨t1, hoa⟩ := exo_at I.hok ea
  have hclsC : PySem.W.clsIn K C = some { name := nm, bases := bs, mro := .ref C :: bm, ns := NN, qualname := qn, hasDict := true, slotNames := sn, subclasses := sub, abstract := ab, collection := col, hasDel := false } := by
    unfold PySem.W.clsIn
    rw [hC] <;> rfl
  have kC := hkI _ _ hC
  refine PySem.ks_wpAt_MethodCall (pl := pl) ?_ hev
  refine PySem.ks_wpAt_super_base (fd := F.fd doc pm ctv) (ar := ar) (cc := F.c) SS.sup SS.cls rfl rfl (hkI _ _ lkf) rfl har rfl (hkI _ _ lkco) rfl hvs hfl SF.top ?_
  obtain ⟨mb, hb1, hb2⟩ := I.mod.blt
  refine PySem.W.ks_loadName_global SS.sc.kind SS.sup (Calls.loadGlobal_builtin (I.mod.glob.keeps I.bk) hm (hb1.keeps I.bk) ((hb2 _ (by decide)).trans PyProof.Rows.Boot.«super») ⟨rfl, ?_⟩)
  refine wpAny_loadName_free SS.sc.kind SS.cls (c := cc) (by show F.cl.lookup _ = _; rw [ecl]; rfl) ⟨_, hkI _ _ lkc, rfl⟩ ?_
  rw [hself]
  refine wpAny_loadName_local SS.sc.kind SS.slf hns hself0 ?_
  refine PySem.ks_wpAny_isType_cls kC rfl ⟨rfl, ?_⟩
  obtain ⟨hh, g, d, t, os⟩ := s
  refine PySem.ks_wpAny_call_super kC rfl hoa rfl (fun c z => by cases z) (PySem.W.looks_mroIn hkI SF.own) fun h' hso keep => ?_
  have I1 : Inv (NdefX.ncx CX P w K mg base N F f A outer s0 H0 E0) [] σ H ⟨h', g, d, t, os⟩ := I.kept (t' := t) keep
  have hoa1 := keep _ _ hoa
  have IA : PySem.W.InstAt h' a { cls := .ref C, dict := none, data := .fields #[.ref t1, .none, .none, .none, .bool false, .none] } C none := ⟨hoa1, rfl, rfl, trivial⟩
  have hsup : PySem.W.alongIn K "__init__" (((Value.ref C :: bm).dropWhile (· != .ref C)).drop 1) = some (some (.builtin VI)) := by
    have z := SF.ini
    unfold PySem.W.ks_superIn at z
    rw [hclsC] at z
    exact z
  refine PySem.W.kxs_getMethod PySem.W.kxs_ValueError hso (PySem.W.looks_opaque I1.kIn SF.third) (l₀ := .ref C :: bm) (fun A Q E s k q => wpAny_bind ((PySem.W.looks_clsIn I1.kIn hclsC) A _ E s k (wpAny_pure q))) rfl I1.kIn hsup
    (IA.type.andThen (PySem.W.looks_subIn I1.kIn SF.ve)) (PySem.W.ks_ne I1.kIn IA hclsC) rfl ?_
  -- the wrapper is laid
  have hgot : (h'.push (PySem.W.kxs_mw VI a)).get? h'.objs.size = some (PySem.W.kxs_mw VI a) := Heap.get?_push_at rfl rfl
  have hn : H h'.objs.size = none := I1.hok.fresh (Nat.le_refl _)
  have I2 : Inv (NdefX.ncx CX P w K mg base N F f A outer s0 H0 E0) [] σ (upd H h'.objs.size (mwO h'.objs.size a)) ⟨h'.push (PySem.W.kxs_mw VI a), g, d, t + 1, os⟩ :=
    I1.laid (t' := t + 1) (a := h'.objs.size) (o := mwO h'.objs.size a) (fun b o z => Heap.get?_push_of_some _ z) (Nat.le_refl _) (mwO_ok hgot)
  rw [he]
  refine PySem.W.kxs_callWith (i := VI) (x := a) rfl ?_
  refine PySem.Calls.evalArgs_plain ?_
  show wpAny _ _ (spliced (backTo p3 ((false, eval e (NdefX.envF F f s0.heap.objs.size)) :: starEach [] (NdefX.envF F f s0.heap.objs.size)))) _ _ _
  rw [← he, hE]
  refine thn (ha.run _ [] _ σ _ _ I2 (hta _ (fun b u z => by rw [upd_ne (ne_of_none z hn)]; exact z) ((NoT.refl H).upd fun ps z => by have z : HO.ext _ = HO.tbl ps := z; cases z))) fun us s1 ⟨vs, H1, I3, r1, hl, ea1, k1, q⟩ => ?_
  have hmw : s1.heap.get? h'.objs.size = some (PySem.W.kxs_mw VI a) := mwO_at I3.hok (k1 _ _ upd_same)
  refine ⟨hmw, ?_⟩
  exact run_mw T I3 ea1 hmw (by show us.length ≤ _; rw [← r1.length, sizeLine_eq]; omega) q
end
end ES
namespace ES
open PySem PySem.Spec PyProof.Rows L2
/-- what such an __init__ keeps: the object's dict holds fs (of the further arguments) -/
def spInit (C : Addr) (n : Nat) (fs : List V → List (Str × V)) : Sp := fun vs H Q _ => ∃ (a : Addr) (ws : List V), vs = .ref a :: ws ∧ ws.length = n ∧ H a = some (exo a C none) ∧
  ∀ (H' : Hp) (dx : Addr), (∀ b u, H b = some u → b ≠ a → H' b = some u) → NoT H H' → H dx = none → dx ≠ a → H' a = some (exo a C (some dx)) → H' dx = some (exd dx (fs ws)) → Q .non H'
section
variable {CX : CXT} {P : Program} {w : World} {K : PySem.W.Frag} {mg : Str → Option Value} {base : Heap} {N ps : List Str} {F : NdefX.NF} {f C : Addr} {slf0 : Str}
/-- an error's __init__ by its body: super().__init__(text), then the fields -/
theorem init_of {n k : Nat} {fs : List V → List (Str × V)} {x : Str} {rest : List Stmt} {p0 p1 p2 p3 p4 pc : Pos} {jc : Nat} {doc pm ctv oc : Value} {od : Option Addr} {osl : Array (Option Value)} (T : OexC K C) (SF : SupF P K C f F) (SS : SupS slf0 N ps F) (hm : mg "super" = none)
    (lk : K.lookup f = some ⟨oc, od, .func (F.fd doc pm ctv), osl⟩)
    (hb : F.body = .Expr (supCall (.Constant (.str x) jc pc) p0 p1 p2 p3) p4 :: rest) (hl : ps.length = n + 1)
    (hev : ∀ L, ∃ pl : Sem Bool, eval (supCall (.Constant (.str x) jc pc) p0 p1 p2 p3) (NdefX.envF F f L) = (do
      let ov ← attributeBase (.Call (.Name "super" p0) [] [] p1) "__init__" (NdefX.envF F f L) (eval (.Call (.Name "super" p0) [] [] p1) (NdefX.envF F f L))
      standAt p2.atName
      let (g, first) ← holding [ov] (getMethod ov "__init__" pl)
      callWith p3 g first (backTo p3 (starEach [.Constant (.str x) jc pc] (NdefX.envF F f L))) []))
    (hsw : ∀ L, swapsWith (supCall (.Constant (.str x) jc pc) p0 p1 p2 p3) none p4.line (NdefX.envF F f L) = pure false)
    (hrest : ∀ (A : Around) (outer : List Env) (s : Shared) (H : Hp) (E : XK), ∃ t, PSs (NdefX.ncx CX P w K mg base N F f A outer s H E) rest t ∧ ∀ (a : Addr) (ws : List V) (H1 : Hp) (D : Ends), ws.length = n → H1 a = some (exo a C none) →
      (∀ (dx : Addr) (H2 : Hp), H1 dx = none → dx ≠ a → (∀ b u, H1 b = some u → b ≠ a → H2 b = some u) → NoT H1 H2 → H2 a = some (exo a C (some dx)) → H2 dx = some (exd dx (fs ws)) → D.nx (NdefX.startF N (.ref a :: ws) [none]) H2) → t D (NdefX.startF N (.ref a :: ws) [none]) H1) :
    FnOk P w K mg base CX (k + 1) f (F.fd doc pm ctv) ps (spInit C n fs) := by
  have hlen : ∀ vs H Q E, spInit C n fs vs H Q E → vs.length = ps.length := fun vs H Q E ⟨a, ws, e, hw, _⟩ => by rw [e, List.length_cons, hw, hl]
  refine ⟨hlen, fun A outer s H args us vs Q E hr e0 hbd r hsp => ?_⟩
  have hvl := hlen _ _ _ _ hsp
  have lim : s.heap.NoLimit := e0.mod.nolimit.keeps fun b o z => (e0.bs b o z).1
  have KX : K.In s.heap := e0.mod.kin.keeps fun b o z => (e0.bs b o z).1
  obtain ⟨a, ws, ev, hws, ea, q⟩ := hsp
  subst ev
  obtain ⟨cc, occ, dcc, slc, ecl, lkc⟩ := SF.cell
  have CA : NdefX.CellsAt F.cl ["__class__"] [none] s.heap H := by
    refine ⟨rfl, fun y c z => ?_, fun y1 y2 c z1 z2 => ?_, fun i y z => ?_⟩
    · rw [ecl] at z
      have hc2 : c = cc := by
        simp only [List.lookup] at z
        split at z
        · exact (Option.some.inj z).symm
        · cases z
      subst hc2
      exact ⟨(e0.bs _ _ (e0.mod.kin _ _ lkc)).2, some (.ref C), _, KX _ _ lkc, rfl⟩
    · rw [ecl] at z1 z2
      simp only [List.lookup] at z1 z2
      split at z1
      · rename_i h1
        split at z2
        · rename_i h2
          exact (beq_iff_eq.mp h1).trans (beq_iff_eq.mp h2).symm
        · cases z2
      · cases z1
    · cases i with
      | zero =>
        have z : y = "__class__" := by simpa using z.symm
        subst z
        exact ⟨cc, by rw [ecl]; rfl, fun v z => by cases z⟩
      | succ i => simp at z
  refine codeAny_call_function hr.depth (KX _ _ lk) rfl SS.sc.co SS.sc.gen rfl (PySem.W.codeRec_of KX SF.code) (hbd _ _ _ _ ?_)
  refine wpAny_newFunctionEnv SS.sc.nocell (fun ⟨y, _⟩ hy => SS.sc.par y (List.of_mem_zip hy).1) (fun h1 hns hsb => ⟨lim.fresh _ hsb, ?_⟩) SS.sc.kind
  show codeAny _ _ (.func F.body (NdefX.envF F f s.heap.objs.size)) _ _
  refine PySem.ks_codeAny_funcAt ?_
  have kp : ∀ b o, s.heap.get? b = some o → h1.get? b = some o := fun b o z => hsb.extBut b o (Nat.ne_of_lt (Heap.lt_size z)) (Heap.get?_push_of_some _ z)
  obtain ⟨t, pt, ft⟩ := hrest A outer s H E
  have I : Inv (NdefX.ncx CX P w K mg base N F f A outer s H E) [] (NdefX.startF N (.ref a :: ws) [none]) H { s with heap := h1, toks := s.toks + (ps.zip us).length } := NdefX.inv_startN SS.sc hr.hd e0 hvl r CA hns kp
  obtain ⟨pl, hpl⟩ := hev s.heap.objs.size
  rw [hb]
  refine PySem.ks_wpAt_execs_cons (PySem.ks_wpAt_Expr_any ?_ I.quiet (hsw _))
  refine sup_line (ps := ps) (pl := pl) (ta := tCons (tC (.str x)) tNil) T SF SS hm I rfl ea (pa_cons pe_str pa_nil) (fun H' kH kT => ⟨show 1 ≤ 1000 by decide, kH _ _ ea, fun b u z => z, fun s' I' => ?_⟩) rfl rfl hpl
  refine wpAt_of_wpAny (wpAny_mono (pt.run [] s' _ H' { nx := fun _ H2 => Q .non H2, rt := Q } I' (ft a ws H' _ hws (kH _ _ ea) fun dx H2 ndx nea k2 kT2 e1 e2 => ?_)) (fun fl s2 hs => ?_) fun e2 s2 hs => hs)
  · refine q H2 dx (fun b u z nb => k2 b u (kH b u z) nb) (fun b ps z => kT b ps (kT2 b ps z)) ?_ nea e1 e2
    cases hd : H dx with
    | none => rfl
    | some u => rw [kH _ _ hd] at ndx; cases ndx
  · have fin : ∀ {σ' : L2.St} {H' : Hp} {v : V} {u : Value}, Inv (NdefX.ncx CX P w K mg base N F f A outer s H E) [] σ' H' s2 → L2.RelV v u → Q v H' → CE outer P w H s Q u s2 :=
      fun {σ' H' v u} J rv q => ⟨v, H', J.os, J.bare, J.base, J.hok, rv, q⟩
    cases fl with
    | ret u =>
      obtain ⟨v, σ', H', J, rv, z⟩ := hs
      exact fin J rv z
    | next =>
      obtain ⟨σ', H', J, z⟩ := hs
      exact fin (v := V.non) (u := Value.none) J rfl z
    | brk =>
      obtain ⟨_, _, _, z⟩ := hs
      exact False.elim z
    | cont =>
      obtain ⟨_, _, _, z⟩ := hs
      exact False.elim z
end
end ES
namespace ES
open PySem PySem.Spec PyProof.Rows L2
/-- fields by the names of parameters, the last one first -/
def fsGo {T : Type} : List (Str × T) → List Str → List T → List (Str × T)
  | acc, f :: fl, v :: vs => fsGo ((f, v) :: acc) fl vs
  | acc, _, _ => acc
def fsOf {T : Type} (fl : List Str) (vs : List T) : List (Str × T) := fsGo [] fl vs
theorem ono {e C : Addr} {d : Option Addr} : ∀ ps, exo e C d ≠ .tbl ps := fun ps z => by
  have z' : HO.ext _ = HO.tbl ps := z
  cases z'
theorem xno {dx : Addr} {fs : List (Str × V)} : ∀ ps, exd dx fs ≠ .tbl ps := fun ps z => by
  have z' : HO.ext _ = HO.tbl ps := z
  cases z'
section
variable {CX : CXT} {P : Program} {w : World} {K : PySem.W.Frag} {mg : Str → Option Value} {base : Heap} {N ps : List Str} {F : NdefX.NF} {f C : Addr} {slf0 : Str}
abbrev stF (slf0 fld y : Str) (p1 p2 p3 p4 : Pos) : Stmt := .Assign [.Attribute (.Name slf0 p1) fld p2] (.Name y p3) p4
/-- one field -/
theorem rest1 {fld y : Str} {p1 p2 p3 p4 : Pos} (T : OexC K C) (hf : PySem.W.findIn K (.ref C) fld = some none) (SS : SupS slf0 N ps F) (h1 : N[1]? = some y) (hy : F.scope.names.lookup y = some .local) (hd0 : (slf0 == ("__debug__" : Str)) = false) (hd1 : (y == ("__debug__" : Str)) = false) (hc0 : (slf0 == ("__classdict__" : Str)) = false) (hc1 : (y == ("__classdict__" : Str)) = false)
    (hsw : ∀ L, swapsWith (.Name y p3) (some (.Attribute (.Name slf0 p1) fld p2)) p4.line (NdefX.envF F f L) = pure false) (A : Around) (outer : List Env) (s : Shared) (H : Hp) (E : XK) :
    ∃ t, PSs (NdefX.ncx CX P w K mg base N F f A outer s H E) [stF slf0 fld y p1 p2 p3 p4] t ∧ ∀ (a : Addr) (ws : List V) (H1 : Hp) (D : Ends), ws.length = 1 → H1 a = some (exo a C none) →
      (∀ (dx : Addr) (H2 : Hp), H1 dx = none → dx ≠ a → (∀ b u, H1 b = some u → b ≠ a → H2 b = some u) → NoT H1 H2 → H2 a = some (exo a C (some dx)) → H2 dx = some (exd dx (fsOf [fld] ws)) → D.nx (NdefX.startF N (.ref a :: ws) [none]) H2) → t D (NdefX.startF N (.ref a :: ws) [none]) H1 := by
  refine ⟨_, pss_one (ps_ost (pe_var (i := 0) SS.fst (.inl SS.slf) hd0 hc0) (pe_var (i := 1) h1 (.inl hy) hd1 hc1) (hsw _)), fun a ws H1 D hl ea q => ?_⟩
  match ws, hl with
  | [v], _ =>
    refine ⟨v, rfl, .ref a, rfl, a, C, rfl, T, hf, .inl ⟨ea, fun dx nd na => q dx _ nd na (fun b u z nb => ?_) (((NoT.refl _).upd xno).upd ono) upd_same ?_⟩⟩
    · rw [upd_ne nb, upd_ne (ne_of_none z nd)]
      exact z
    · rw [upd_ne na, upd_same]
      rfl
/-- two fields -/
theorem rest2 {fld fld2 y y2 : Str} {p1 p2 p3 p4 q1 q2 q3 q4 : Pos} (T : OexC K C) (hf : PySem.W.findIn K (.ref C) fld = some none) (hf2 : PySem.W.findIn K (.ref C) fld2 = some none) (SS : SupS slf0 N ps F) (h1 : N[1]? = some y) (h2 : N[2]? = some y2) (hy : F.scope.names.lookup y = some .local) (hy2 : F.scope.names.lookup y2 = some .local)
    (hd0 : (slf0 == ("__debug__" : Str)) = false) (hd1 : (y == ("__debug__" : Str)) = false) (hc0 : (slf0 == ("__classdict__" : Str)) = false) (hc1 : (y == ("__classdict__" : Str)) = false) (hd2 : (y2 == ("__debug__" : Str)) = false) (hc2 : (y2 == ("__classdict__" : Str)) = false)
    (hsw : ∀ L, swapsWith (.Name y p3) (some (.Attribute (.Name slf0 p1) fld p2)) p4.line (NdefX.envF F f L) = pure false)
    (hsw2 : ∀ L, swapsWith (.Name y2 q3) (some (.Attribute (.Name slf0 q1) fld2 q2)) q4.line (NdefX.envF F f L) = pure false) (A : Around) (outer : List Env) (s : Shared) (H : Hp) (E : XK) :
    ∃ t, PSs (NdefX.ncx CX P w K mg base N F f A outer s H E) [stF slf0 fld y p1 p2 p3 p4, stF slf0 fld2 y2 q1 q2 q3 q4] t ∧ ∀ (a : Addr) (ws : List V) (H1 : Hp) (D : Ends), ws.length = 2 → H1 a = some (exo a C none) →
      (∀ (dx : Addr) (H2 : Hp), H1 dx = none → dx ≠ a → (∀ b u, H1 b = some u → b ≠ a → H2 b = some u) → NoT H1 H2 → H2 a = some (exo a C (some dx)) → H2 dx = some (exd dx (fsOf [fld, fld2] ws)) → D.nx (NdefX.startF N (.ref a :: ws) [none]) H2) → t D (NdefX.startF N (.ref a :: ws) [none]) H1 := by
  refine ⟨_, pss_cons (ps_ost (pe_var (i := 0) SS.fst (.inl SS.slf) hd0 hc0) (pe_var (i := 1) h1 (.inl hy) hd1 hc1) (hsw _)) (pss_one (ps_ost (pe_var (i := 0) SS.fst (.inl SS.slf) hd0 hc0) (pe_var (i := 2) h2 (.inl hy2) hd2 hc2) (hsw2 _))), fun a ws H1 D hl ea q => ?_⟩
  match ws, hl with
  | [v, v2], _ =>
    refine ⟨v, rfl, .ref a, rfl, a, C, rfl, T, hf, .inl ⟨ea, fun dx nd na => ?_⟩⟩
    refine ⟨v2, rfl, .ref a, rfl, a, C, rfl, T, hf2, .inr ⟨dx, [(fld, v)], upd_same, by rw [upd_ne na, upd_same], show 1 ≤ 900 by decide, q dx _ nd na (fun b u z nb => ?_) ((((NoT.refl _).upd xno).upd ono).upd xno) ?_ upd_same⟩⟩
    · rw [upd_ne (ne_of_none z nd), upd_ne nb, upd_ne (ne_of_none z nd)]
      exact z
    · rw [upd_ne (Ne.symm na), upd_same]
end
end ES
namespace DL
open PySem PySem.Spec PyProof.Rows L2
variable [TabC]
/-! ### raise -/
/-- an error class of the program, made with the fields fl -/
def GEx (P : Program) (w : World) (K : PySem.W.Frag) (mg : Str → Option Value) (base : Heap) (x : Str) (k : Nat) (fl : List Str) : Prop := ∃ (fI : Addr) (fd : FuncData) (ps : List Str), mg x = some (.ref (He.ga K x)) ∧ OexC K (He.ga K x) ∧
  PySem.W.findIn K (.ref (He.ga K x)) "__init__" = some (some (.ref fI)) ∧ PySem.W.typeIn K (.ref fI) = some (.type "function") ∧ Binds K fd ps [] ∧ FnOk P w K mg base (CX P w) k fI fd ps (ES.spInit (He.ga K x) fl.length (ES.fsOf fl))
def sRaise (C : Str) (fl : List Str) (m : EM (List D)) : SM := fun xq de s n => m xq s n fun ds n1 => ds.length = fl.length ∧ xq (C, ES.fsOf fl ds) n1
section
variable {K : PySem.W.Frag} {aS : Addr} {H : Hp} {A : AS}
theorem repF_go : ∀ {fl : List Str} {ds : List D} {vs : List V} {a : List (Str × D)} {b : List (Str × V)}, RepF K aS H A a b → RepL K aS H A ds vs → RepF K aS H A (ES.fsGo a fl ds) (ES.fsGo b fl vs)
  | [], _, _, _, _, r, _ => r
  | f :: fl, [], vs, a, b, r, q => by
    rw [RepL] at q
    subst q
    exact r
  | f :: fl, d :: ds, vs, a, b, r, q => by
    rw [RepL] at q
    obtain ⟨v, vr, e, r1, q1⟩ := q
    subst e
    refine repF_go (fl := fl) (a := (f, d) :: a) (b := (f, v) :: b) ?_ q1
    rw [RepF]
    exact ⟨v, b, rfl, r1, r⟩
theorem repF_fs {fl : List Str} {ds : List D} {vs : List V} (q : RepL K aS H A ds vs) : RepF K aS H A (ES.fsOf fl ds) (ES.fsOf fl vs) := repF_go (by rw [RepF]) q
end
section
variable {X : Cx} {E : XK} {O O' OL : List Nat} {e : Expr} {es : List Expr} {ml : EM (List D)} {pos p rpos : Pos} {x : Str} {fl : List Str} {k k' : Nat}
theorem vs_raise (hc : X.calm = true) (tk : TK X E) (G : GEx X.prog X.w X.K X.mg X.base x k fl) (hr : Room k' X.A) (hk : k + 1 ≤ k') (hg : Gl X x) (ha : VA Rep X E O (e :: es) ml) (hfl0 : fl.length ≤ 1000 := by decide) (hdb : (x == ("__debug__" : Str)) = false := by decide)
    (he : starEach (e :: es) X.env = (false, eval e X.env) :: starEach es X.env := by rfl) (hpl : (backTo pos (starEach es X.env)).any (·.1) = false := by rfl) :
    VS X E O O' OL (.Raise (some (.Call (.Name x p) (e :: es) [] pos)) none rpos) (sRaise x fl ml) := by
  obtain ⟨fI, fd, ps, hm, T, iC, tI, hb, F1⟩ := G
  obtain ⟨mn, t, pa, ft⟩ := ha
  refine ⟨_, ps_raise hc tk (pmk_oex T iC tI F1 (DL.Room.le hr hk) hb .nil (passes_call tk_f fun _ _ _ _ h => h) hg hm pa hdb he hpl), fun aS A0 H0 σ H s n xq de De S L kk h => ?_⟩
  refine ft aS A0 H0 σ H s n xq _ S L (mn _ _ _ _ _ (fun ds n1 q vs H1 k1 st1 r1 => ?_) h)
  obtain ⟨hl, q⟩ := q
  have rL := RL.repL r1
  have hvl : vs.length = fl.length := by rw [rL.length]; exact hl
  have hfl : vs.length ≤ 1000 := by omega
  refine ⟨hfl, fun a na => ?_⟩
  rw [List.append_nil]
  refine ⟨a, vs, rfl, hvl, upd_same, fun H' dx kp kT nd nda e1 e2 => ⟨rfl, dx, _, e1, e2, ?_, ?_⟩⟩
  · rw [upd_ne nda] at nd
    exact nd
  · rw [upd_ne nda] at nd
    have up : ∀ b u, H1 b = some u → upd (del H' a) dx (.xd (ES.fsOf fl vs)) b = some u := fun b u z => by
      rw [upd_ne (ne_of_none z nd), del_ne (ne_of_none z na)]
      exact kp b u (by rw [upd_ne (ne_of_none z na)]; exact z) (ne_of_none z na)
    have noT : ∀ b ps, upd (del H' a) dx (.xd (ES.fsOf fl vs)) b = some (.tbl ps) → H1 b = some (.tbl ps) := fun b ps z => by
      by_cases zb : b = dx
      · rw [zb, upd_same] at z; cases z
      · rw [upd_ne zb] at z
        by_cases za : b = a
        · rw [za, del_same] at z; cases z
        · rw [del_ne za] at z
          have y := kT b ps z
          rw [upd_ne za] at y
          exact y
    have S1 := S.step k1 st1
    have kpS : KpS aS H1 (upd (del H' a) dx (.xd (ES.fsOf fl vs))) := fun b u z _ => .of (up b u z)
    refine L x (ES.fsOf fl ds) n1 (some dx) _ (S1.fr.trans kpS) (st1.kp ⟨up, noT⟩) ⟨_, ?_, upd_same, ?_⟩ q
    · cases z : H0 dx with
      | none => rfl
      | some u =>
        by_cases hs : dx = aS
        · obtain ⟨xs, z2⟩ := st1.lst
          rw [hs, z2] at nd
          cases nd
        · exact (KpS.gone S1.fr nd z (hs)).elim
    · refine RepF.mono (sub_le fun b z => av_nil b z) _ _ (repF_fs (rL.kp kpS st1 AV.st))
end
end DL
namespace TR
open PySem PySem.Spec PyProof.Rows L2
/-! ### several except clauses, with names and without -/
abbrev Hd := Value × Option Nat × (Addr → Value → Option Addr → TS)
/-- behind a clause its name is gone -/
def dropN (i : Nat) (D : Ends) : Ends := { nx := fun σ H => D.nx (σ.set i none) H, rt := D.rt, bk := fun σ H => D.bk (σ.set i none) H, ct := fun σ H => D.ct (σ.set i none) H }
def runHd (ts : Addr → Value → Option Addr → TS) (D : Ends) (a : Addr) (cls : Value) (d : Option Addr) (σ : L2.St) (H : Hp) : Option Nat → Prop
  | none => ts a cls d D σ H
  | some i => ts a cls d (dropN i D) (σ.set i (some (.ref a))) H
def wMix (K : PySem.W.Frag) (Wout : WX) (D : Ends) : List Hd → WX
  | [] => Wout
  | (c, o, ts) :: r => fun cls d σ H => ∃ b, PySem.W.exmOne K cls c = some b ∧ (b = true → ∀ a, H a = none → runHd ts D a cls d σ H o) ∧ (b = false → wMix K Wout D r cls d σ H)
def NmOk (X : Cx) : Option Str → Option Nat → Prop
  | none, none => True
  | some n, some i => X.N[i]? = some n ∧ X.env.kindOf n = some .local
  | _, _ => False
inductive MixOk (X : Cx) : List ExceptHandler → List Hd → Prop
  | nil : MixOk X [] []
  | cons {x : Str} {c : Value} {ts : Addr → Value → Option Addr → TS} {b₀ : Stmt} {suite : List Stmt} {np pos' : Pos} {hds : List ExceptHandler} {l : List Hd} {n : Option Str} {o : Option Nat} (hc : Names X x c) (hn : NmOk X n o)
      (hsu : ∀ (a : Addr) (oe : Obj) (cls : Value) (d : Option Addr) (pn : List (Addr × Obj)), Zc cls d oe → (∃ vs, oe.data = .fields vs) → PSs (X.suite a ((a, oe) :: pn)) (b₀ :: suite) (ts a cls d)) (r : MixOk X hds l) :
      MixOk X (.ExceptHandler (some (.Name x np)) n (b₀ :: suite) pos' :: hds) ((c, o, ts) :: l)
section
variable {X : Cx} {body : List Stmt} {h₀ : ExceptHandler} {hds : List ExceptHandler} {l : List Hd} {pos : Pos} {tb : WX → TS} {Wout : WX}
theorem ps_try_mix (hs : X.stack = X.env :: X.outer) (hf : X.env.frame = some X.env.locals) (hN : X.N.Nodup) (tk : Takes X Wout)
    (hb : ∀ (W : WX) (pn : List (Addr × Obj)) (xe : Value → Shared → Prop), Takes (X.tr pn xe) W → PassesOwn (model X.prog X.w) X.A X.env xe → PSs (X.tr pn xe) body (tb W))
    (hh : MixOk X (h₀ :: hds) l) : PS X (.Try body (h₀ :: hds) [] [] pos) (fun D σ H => tb (wMix X.K Wout D l) D σ H) := by
  refine ⟨fun pins s σ H D I h => ?_⟩
  have ok := I.ok
  have frs0 : X.A.frames = some (X.env :: X.outer) := by rw [ok.frames, hs]
  -- what a body's end becomes
  have back : ∀ (xe : Value → Shared → Prop) (f : Flow) (s1 : Shared), SP (X.tr (X.pn ++ pins) xe) [] D f s1 → SP X pins D f s1 := fun xe f s1 q => by
    cases f with
    | ret u => obtain ⟨v, σ', H', J', r, z⟩ := q; exact ⟨v, σ', H', J'.ofTry ok, r, z⟩
    | next => obtain ⟨σ', H', J', z⟩ := q; exact ⟨σ', H', J'.ofTry ok, z⟩
    | brk => obtain ⟨σ', H', J', z⟩ := q; exact ⟨σ', H', J'.ofTry ok, z⟩
    | cont => obtain ⟨σ', H', J', z⟩ := q; exact ⟨σ', H', J'.ofTry ok, z⟩
  refine wpAny_Try_except ?_
  refine wpAny_mono ((hb (wMix X.K Wout D l) (X.pn ++ pins) (fun e s₁ => wpAny (model X.prog X.w) X.A (noteFrame e X.env) (fun _ s₂ => wpAny (model X.prog X.w) X.A (setFlight e none) (fun _ s₃ =>
    wpAny (model X.prog X.w) X.A (handleBy e X.env (h₀ :: hds)) (SP X pins D) X.xe s₃) X.xe s₂) X.xe s₁) (fun u s' xx => ?_) PassesOwn.looking).run [] s σ H D (I.toTry _) h) (fun f s1 hsp => ?_) (fun e s1 he => he)
  · obtain ⟨a, B, sI, pins', σ', H', cls, d, rfl, J', nb, up, sky, na, os, ag, w⟩ := xx
    have J : Inv X pins σ' H' sI := J'.ofTry ok
    rw [hs] at sky
    refine Sky.land Zc.steady frs0 hf sky fun h3 fl3 up3 => ?_
    have J3 : Inv X pins σ' H' { s' with heap := h3 } := J.landed nb fl3.1 (up.trans up3) os ag
    obtain ⟨oe3, vs3, he3, hz3, hd3⟩ := fl3.there
    have nfr : a ∉ frs (X.env :: X.outer) := fun hm => by
      obtain ⟨_, o', e', hnf⟩ := fl3.2.2.1.mem hm
      rw [he3] at e'
      cases e'
      exact hnf _ hd3
    have nL : a ≠ X.env.locals := fun z => nfr (List.mem_filterMap.mpr ⟨X.env, List.mem_cons_self, by rw [hf, z]⟩)
    have nF : a ∉ X.fs := fun hm => by
      obtain ⟨e, he, q⟩ := List.mem_filterMap.mp hm
      exact nfr (List.mem_filterMap.mpr ⟨e, List.mem_cons_of_mem _ he, q⟩)
    have S3 := J3.suite he3 hd3 na nL nF
    have LT : PySem.W.Looks (model X.prog X.w) h3 (typeOf (.ref a)) cls := fun A Q E s k q => wpAny_typeOf_ref (k _ _ he3) (by rw [hz3.1]; exact q)
    have go : ∀ {hds' : List ExceptHandler} {l' : List Hd}, MixOk X hds' l' → wMix X.K Wout D l' cls d σ' H' →
        wpAny (model X.prog X.w) X.A (handleBy (.ref a) X.env hds') (SP X pins D) X.xe { s' with heap := h3 } := by
      intro hds' l' hk
      induction hk with
      | nil =>
        intro w
        refine wpAny_handleBy_nil ?_
        obtain ⟨k1, k2, k3, oe, vs, T, oT, ts', he, hz, hd, h1, hr⟩ := id fl3
        unfold PySem.passOn
        refine wpAny_bind (wpAny_field he hd h1 ?_)
        rw [if_neg (show ¬ ((Value.ref T == Value.none) = true) from by simp)]
        have out : wpAny (model X.prog X.w) X.A (setFlight (.ref a) X.env.frame) (fun _ s4 => wpAny (model X.prog X.w) X.A (throw (.ref a) : Sem Flow) (SP X pins D) X.xe s4) X.xe { s' with heap := h3 } := by
          rw [hf]
          refine HandSPX.setFlight_upZ fl3 fun h4 hh4 up4 => wpAny_throw (tk _ _ ?_)
          exact ⟨a, B, sI, pins, σ', H', cls, d, rfl, J, nb, (up.trans up3).trans up4, .inr (.inr (by rw [hs]; exact hh4)), na, os, ag, w⟩
        first
          | exact wpAny_bind (wpAny_pure (wpAny_bind out))
          | exact wpAny_bind out
      | @cons x c ts b₀ suite np pos' hds2 l2 n o hc hn hsu r ih =>
        intro w
        obtain ⟨b, hb1, yes, no⟩ := w
        refine wpAny_handleBy_cons (codeAny_handlers_test ?_) (by intro q; cases q)
        have LM := PySem.W.exm_one (M := model X.prog X.w) J3.kIn LT hb1
        have test : ∀ {Q : Value → Shared → Prop} {E : Value → Shared → Prop}, Q c { s' with heap := h3 } → wpAny (model X.prog X.w) (X.A.mark (some (.ref a))) (eval (.Name x np) X.env) Q E { s' with heap := h3 } := fun {Q E} q => by
          obtain ⟨hg, hdbg, hm | ⟨hm, hv, hnn⟩⟩ := hc
          · exact ld_glob (X := X.suite a ((a, oe3) :: (X.pn ++ pins))) S3 hg hm q hdbg
          · exact ld_blt (X := X.suite a ((a, oe3) :: (X.pn ++ pins))) S3 hg hm hv q hnn hdbg
        refine test (LM.here ?_)
        cases b with
        | false => exact ih (no rfl)
        | true =>
          have q := yes rfl a na
          match n, o, hn, q with
          | none, none, _, q =>
            refine codeAny_handlers_suite (HandSPX.lands_againZ fl3 fun h4 fl4 up4 => ?_)
            have J4 : Inv X pins σ' H' { s' with heap := h4 } := J.landed nb fl4.1 ((up.trans up3).trans up4) os ag
            obtain ⟨oe4, vs4, he4, hz4, hd4⟩ := fl4.there
            refine wpAny_mono ((hsu a oe4 cls d (X.pn ++ pins) hz4 ⟨_, hd4⟩).run [] _ _ H' _ (J4.suite he4 hd4 na nL nF) q) (fun f s6 hsp => ?_) (fun _ _ z => False.elim z)
            cases f with
            | ret u => obtain ⟨v6, σ6, H6, S6, r6, q6⟩ := hsp; exact ⟨_, _, _, S6.unsuite ok, r6, q6⟩
            | next => obtain ⟨σ6, H6, S6, q6⟩ := hsp; exact ⟨_, _, S6.unsuite ok, q6⟩
            | brk => obtain ⟨σ6, H6, S6, q6⟩ := hsp; exact ⟨_, _, S6.unsuite ok, q6⟩
            | cont => obtain ⟨σ6, H6, S6, q6⟩ := hsp; exact ⟨_, _, S6.unsuite ok, q6⟩
          | some n, some i, ⟨hi, hln⟩, q =>
            refine codeAny_handlers_suite_as (HandSPX.lands_againZ fl3 fun h4 fl4 up4 => ?_)
            have J4 : Inv X pins σ' H' { s' with heap := h4 } := J.landed nb fl4.1 ((up.trans up3).trans up4) os ag
            obtain ⟨oe4, vs4, he4, hz4, hd4⟩ := fl4.there
            refine store_ok (X := X.suite a ((a, oe4) :: (X.pn ++ pins))) (v := .ref a) (J4.suite he4 hd4 na nL nF) hN hi (.inl hln) rfl (fun s5 S5 => ?_) (.inr hln)
            refine wpAny_mono ((hsu a oe4 cls d (X.pn ++ pins) hz4 ⟨_, hd4⟩).run [] s5 _ H' _ S5 q) (fun f s6 hsp => ?_) (fun _ _ z => False.elim z)
            cases f with
            | ret u => obtain ⟨v6, σ6, H6, S6, r6, q6⟩ := hsp; exact gone_ok (S6.unsuite ok) hN hi hln fun s7 J7 => ⟨_, _, _, J7, r6, q6⟩
            | next => obtain ⟨σ6, H6, S6, q6⟩ := hsp; exact gone_ok (S6.unsuite ok) hN hi hln fun s7 J7 => ⟨_, _, J7, q6⟩
            | brk => obtain ⟨σ6, H6, S6, q6⟩ := hsp; exact gone_ok (S6.unsuite ok) hN hi hln fun s7 J7 => ⟨_, _, J7, q6⟩
            | cont => obtain ⟨σ6, H6, S6, q6⟩ := hsp; exact gone_ok (S6.unsuite ok) hN hi hln fun s7 J7 => ⟨_, _, J7, q6⟩
    exact go hh w
  · cases f with
    | ret u => exact back _ _ _ hsp
    | next => exact wpAny_execs_nil (back _ _ _ hsp)
    | brk => exact back _ _ _ hsp
    | cont => exact back _ _ _ hsp
end
end TR
namespace TR
open PySem PySem.Spec PyProof.Rows L2
/-! ### found = .. in an except clause -/
/-- what a clause makes of the error: a word with a field, with the list of a field, a word alone, a word with None -/
inductive HV where
  | fld (w f : Str) | lst (w f : Str) | str (w : Str) | nonp (w : Str)
abbrev HE := Addr × Option Nat × HV
abbrev rLst (K : PySem.W.Frag) : List V → Hp → VK → Prop := DL.rListT K
def tsOf (K : PySem.W.Frag) (j : Nat) : HE → Addr → Value → Option Addr → TS
  | (C, o, .fld w f) => fun a cls d => tAsg (tTup (tCons (tC (.str w)) (tCons (tXf a cls d C f (tVar (o.getD 0))) tNil))) (gName j)
  | (C, o, .lst w f) => fun a cls d => tAsg (tTup (tCons (tC (.str w)) (tCons (tCB (rLst K) (tCons (tXf a cls d C f (tVar (o.getD 0))) tNil)) tNil))) (gName j)
  | (_, _, .str w) => fun _ _ _ => tAsg (tC (.str w)) (gName j)
  | (_, _, .nonp w) => fun _ _ _ => tAsg (tTup (tCons (tC (.str w)) (tCons (tC .non) tNil))) (gName j)
def hdOf (K : PySem.W.Frag) (j : Nat) (e : HE) : Hd := (.ref e.1, e.2.1, tsOf K j e)
/-- the same as a wish of the value -/
def hvW (K : PySem.W.Frag) (C : Addr) (cls : Value) (d : Option Addr) (H : Hp) (Q : VK) : HV → Prop
  | .fld w f => cls = .ref C ∧ ∃ (dd : Addr) (fs : List (Str × V)) (v : V), d = some dd ∧ H dd = some (.xd fs) ∧ fs.lookup f = some v ∧ ∀ p, H p = none → Q (.ref p) (upd H p (.tup [.str w, v]))
  | .lst w f => cls = .ref C ∧ ∃ (dd : Addr) (fs : List (Str × V)) (p : Addr) (xs : List V), d = some dd ∧ H dd = some (.xd fs) ∧ fs.lookup f = some (.ref p) ∧ (SqL K H p xs ∨ SqT K H p xs) ∧
      ∀ l, H l = none → ∀ t, upd H l (.lst xs) t = none → Q (.ref t) (upd (upd H l (.lst xs)) t (.tup [.str w, .ref l]))
  | .str w => Q (.str w) H
  | .nonp w => ∀ p, H p = none → Q (.ref p) (upd H p (.tup [.str w, .non]))
def hw (K : PySem.W.Frag) (Q : VK) : List HE → Value → Option Addr → Hp → Prop
  | [], _, _, _ => False
  | e :: r, cls, d, H => ∃ b, PySem.W.exmOne K cls (.ref e.1) = some b ∧ (b = true → hvW K e.1 cls d H Q e.2.2) ∧ (b = false → hw K Q r cls d H)
/-- a clause with a field has a name, and not found's -/
def heOk (n j : Nat) : HE → Prop
  | (_, some i, _) => i < n ∧ i ≠ j
  | (_, none, .str _) => True
  | (_, none, .nonp _) => True
  | _ => False
theorem hw_mix {K : PySem.W.Frag} {Q : VK} {D : Ends} {n j : Nat} (hj : j < n) (hD : ∀ (σ : L2.St) (H : Hp) (v : V), σ[j]? = some (some v) → Q v H → D.nx σ H) :
    ∀ (l : List HE) (cls : Value) (d : Option Addr) (σ : L2.St) (H : Hp), (∀ e ∈ l, heOk n j e) → σ.length = n → hw K Q l cls d H → wMix K (fun _ _ _ _ => False) D (l.map (hdOf K j)) cls d σ H
  | [], _, _, _, _, _, _, h => h.elim
  | (C, o, v) :: l, cls, d, σ, H, ok, hn, h => by
    obtain ⟨b, hb, yes, no⟩ := h
    have ok1 := ok _ List.mem_cons_self
    refine ⟨b, hb, fun e a na => ?_, fun e => hw_mix hj hD l cls d σ H (fun e he => ok e (List.mem_cons_of_mem _ he)) hn (no e)⟩
    have y := yes e
    have two : ([V.non, V.non] : List V).length ≤ sizeLine := by rw [sizeLine_eq]; decide
    match o, v, ok1, y with
    | some i, .fld w f, ⟨hi, hij⟩, ⟨ec, dd, fs, u, ed, ha, hl, q⟩ =>
      refine ⟨.ref a, List.getElem?_set_self (by omega), rfl, ec, dd, fs, u, ed, ha, hl, two, fun p hp => hD _ _ (.ref p) ?_ (q p hp)⟩
      rw [List.getElem?_set_ne hij, List.getElem?_set_self (by rw [List.length_set]; omega)]
    | some i, .lst w f, ⟨hi, hij⟩, ⟨ec, dd, fs, u, xs, ed, ha, hl, hs, q⟩ =>
      refine ⟨.ref a, List.getElem?_set_self (by omega), rfl, ec, dd, fs, .ref u, ed, ha, hl, u, xs, rfl, hs, fun k hk => ⟨two, fun p hp => hD _ _ (.ref p) ?_ (q k hk p hp)⟩⟩
      rw [List.getElem?_set_ne hij, List.getElem?_set_self (by rw [List.length_set]; omega)]
    | some i, .str w, ⟨hi, hij⟩, y =>
      refine hD _ _ (.str w) ?_ y
      rw [List.getElem?_set_ne hij, List.getElem?_set_self (by rw [List.length_set]; omega)]
    | some i, .nonp w, ⟨hi, hij⟩, y =>
      refine ⟨two, fun p hp => hD _ _ (.ref p) ?_ (y p hp)⟩
      rw [List.getElem?_set_ne hij, List.getElem?_set_self (by rw [List.length_set]; omega)]
    | none, .str w, _, y => exact hD _ _ (.str w) (List.getElem?_set_self (by omega)) y
    | none, .nonp w, _, y => exact ⟨two, fun p hp => hD _ _ (.ref p) (List.getElem?_set_self (by omega)) (y p hp)⟩
theorem takes_len {X : Cx} {W : WX} (t : Takes X W) : Takes X (fun c d σ H => σ.length = X.N.length → W c d σ H) := fun u s' ⟨a, B, sI, pins, σ, H, cls, d, e, I, nb, up, sky, na, os, ag, w⟩ =>
  t u s' ⟨a, B, sI, pins, σ, H, cls, d, e, I, nb, up, sky, na, os, ag, w I.len⟩
/-! ### the def that tries what it got -/
/-- what it makes of the call: nothing (found stays None), a pair with a word -/
inductive OKF where
  | drop | told (w : Str)
/-- behind the call, found read again: in the very slots -/
def okW (σ : L2.St) (Q : VK) (v : V) (H : Hp) : OKF → Prop
  | .drop => tVar 1 σ H Q
  | .told w => 2 ≤ sizeLine ∧ ∀ p, H p = none → tVar 1 (σ.set 1 (some (.ref p))) (upd H p (.tup [.str w, v])) Q
def TTried (K : PySem.W.Frag) (Ng : List Str) (ok : OKF) (l : List HE) : (XK → Hp → VK → Prop) → Hp → VK → Prop := fun tl H Q => ∀ f : Addr, ∃ Ech : XK, (∀ cls d H', Ech cls d H' → hw K Q l cls d H') ∧ tl Ech H fun v H' => okW ((L2.start Ng [V.ref f]).set 1 (some .non)) Q v H' ok
section
variable {X : Cx}
abbrev ZX (X : Cx) (Ng : List Str) (x : Str) (sg : Scope) (g : Addr) (cdg : Value) (s : Shared) (H : Hp) : Cx := (cxOf C8.CX0 X.prog X.w X.K X.mg X.base Ng x sg g cdg X.A X.stack s H C8.E0).nox
abbrev bodyT (ok : OKF) (a fd : Str) (k1 k2 : Nat) (p1 p2 p3 p4 p5 p6 : Pos) : Stmt := match ok with
  | .drop => .Expr (.Call (.Name a p1) [] [] p2) p3
  | .told w => .Assign [.Name fd p4] (.Tuple [.Constant (.str w) k1 p5, .Call (.Name a p1) [] [] p2] k2 p6) p3
theorem tried_gives {Ng : List Str} {x a fd q : Str} {sg : Scope} {g : Addr} {cdg : Value} {ok : OKF} {l : List HE} {h₀ : ExceptHandler} {hds : List ExceptHandler} {j0 k1 k2 : Nat} {p1 p2 p3 p4 p5 p6 q1 q2 q3 q4 q5 q6 q7 : Pos}
    (nd : Ng.Nodup) (h1 : Ng[1]? = some fd) (hlf : sg.names.lookup fd = some .local) (hlen : 2 ≤ Ng.length) (hl : ∀ e ∈ l, heOk Ng.length 1 e) (hd : (fd == ("__debug__" : Str)) = false := by decide) (hcd : (fd == ("__classdict__" : Str)) = false := by decide)
    (hsw1 : ∀ s H, swapsWith (.Constant .none j0 q2) (some (.Name fd q1)) q3.line (ZX X Ng x sg g cdg s H).env = pure false := by intros; rfl)
    (hsw2 : ∀ s H, swapsWith (.Call (.Name a p1) [] [] p2) none p3.line (ZX X Ng x sg g cdg s H).env = pure false := by intros; rfl)
    (hsw3 : ∀ w s H, swapsWith (.Tuple [.Constant (.str w) k1 p5, .Call (.Name a p1) [] [] p2] k2 p6) (some (.Name fd p4)) p3.line (ZX X Ng x sg g cdg s H).env = pure false := by intros; rfl)
    (hh : ∀ s H, MixOk (ZX X Ng x sg g cdg s H) (h₀ :: hds) (l.map (hdOf X.K 1))) :
    LamX.GivesTo X Ng x sg g cdg [.Assign [.Name fd q1] (.Constant .none j0 q2) q3, .Try [bodyT ok a fd k1 k2 p1 p2 p3 p4 p5 p6] (h₀ :: hds) [] [] q4, .Return (some (.Name fd q5)) q6] a q (TTried X.K Ng ok l) := by
  intro f c' s H Q tl act hc h
  obtain ⟨Ech, hE, htl⟩ := h f
  have hj : 1 < Ng.length := hlen
  let D0 : Ends := { nx := fun _ H' => Q .non H', rt := Q }
  let D1 : Ends := { D0 with nx := fun σ H => tRet (tVar 1) D0 σ H }
  have z0 : ((L2.start Ng [V.ref f]).set 1 (some V.non))[0]? = some (some (.ref f)) := by
    rw [List.getElem?_set_ne (by decide)]
    rfl
  have mixed : ∀ cls d σ' H', Ech cls d H' → σ'.length = Ng.length → wMix X.K (fun _ _ _ _ => False) D1 (l.map (hdOf X.K 1)) cls d σ' H' := fun cls d σ' H' z hz =>
    hw_mix (D := D1) hj (fun σ H v e q => (⟨v, e, q⟩ : tVar 1 σ H Q)) l cls d σ' H' hl hz (hE cls d H' z)
  cases ok with
  | drop =>
    refine ⟨_, pss_cons (ps_set (i := 1) nd h1 (.inl hlf) pe_non (hsw1 s H) (.inr hlf)) (pss_cons (ps_try_mix (X := ZX X Ng x sg g cdg s H) (Wout := fun _ _ _ _ => False)
      (tb := fun W D σ H => ∃ Ec : XK, (∀ cls d σ' H', Ec cls d H' → σ'.length = Ng.length → W cls d σ' H') ∧ σ[0]? = some (some (.ref f)) ∧ H c' = some (LamX.CodeO c' q) ∧ tl Ec H fun _ H1 => D.nx σ H1)
      rfl rfl nd LamX.takes0 (fun W pn xe tk _ => ⟨fun pins s' σ H' D I h' => ?_⟩) (hh s H)) (pss_one (ps_ret (pe_var h1 (.inl hlf) hd hcd)))), ?_⟩
    · obtain ⟨Ec, hW, e0, ec, ht⟩ := h'
      have hp := act (fun c d σ H => σ.length = Ng.length → W c d σ H) pn xe Ec p1 p2 (takes_len (X := (ZX X Ng x sg g cdg s H).tr pn xe) tk) hW
      exact (pss_one (ps_expr hp (hsw2 s H))).run pins s' σ H' D I ⟨e0, ec, ht⟩
    · exact ⟨Ech, mixed, z0, hc, htl⟩
  | told w =>
    refine ⟨_, pss_cons (ps_set (i := 1) nd h1 (.inl hlf) pe_non (hsw1 s H) (.inr hlf)) (pss_cons (ps_try_mix (X := ZX X Ng x sg g cdg s H) (Wout := fun _ _ _ _ => False)
      (tb := fun W D σ H => ∃ Ec : XK, (∀ cls d σ' H', Ec cls d H' → σ'.length = Ng.length → W cls d σ' H') ∧ σ[0]? = some (some (.ref f)) ∧ H c' = some (LamX.CodeO c' q) ∧ tl Ec H fun v H1 => 2 ≤ sizeLine ∧ ∀ p, H1 p = none → D.nx (σ.set 1 (some (.ref p))) (upd H1 p (.tup [.str w, v])))
      rfl rfl nd LamX.takes0 (fun W pn xe tk _ => ⟨fun pins s' σ H' D I h' => ?_⟩) (hh s H)) (pss_one (ps_ret (pe_var h1 (.inl hlf) hd hcd)))), ?_⟩
    · obtain ⟨Ec, hW, e0, ec, ht⟩ := h'
      have hp := act (fun c d σ H => σ.length = Ng.length → W c d σ H) pn xe Ec p1 p2 (takes_len (X := (ZX X Ng x sg g cdg s H).tr pn xe) tk) hW
      exact (pss_one (ps_set (i := 1) nd h1 (.inl hlf) (pe_tup (pa_cons pe_str (pa_cons hp pa_nil))) (hsw3 w s H) (.inr hlf))).run pins s' σ H' D I ⟨e0, ec, ht⟩
    · exact ⟨Ech, mixed, z0, hc, htl⟩
end
end TR
namespace TR
open PySem PySem.Spec PyProof.Rows L2 DL LamX
variable [TabC]
/-! ### a lambda is made: what the heap becomes -/
/-- everything stays, tables may grow -/
def KpA (H H1 : Hp) : Prop := ∀ b u, H b = some u → Kp1 u (H1 b)
section
variable {X : Cx} {pins : List (Addr × Obj)} {σ : L2.St} {H : Hp} {s : Shared}
/-- one more code object, told in the table at P -/
theorem tba_grow {P c' : Addr} {q : Str} {ps : Array Value} {pos : Pos} (t : TbA H) (hP : H P = some (.tbl ps)) (hm : (P, q) ∈ TabC.T) (hu : ∀ p ∈ TabC.T, p.1 = P → p.2 = q) (nC : H c' = none) :
    KpA H (upd (upd H P (.tbl (ps ++ #[rawInt pos.line, rawInt pos.col, .ref c']))) c' (CodeO c' q)) ∧ TbA (upd (upd H P (.tbl (ps ++ #[rawInt pos.line, rawInt pos.col, .ref c']))) c' (CodeO c' q)) := by
  have nPc : P ≠ c' := ne_of_none hP nC
  have away : ∀ b, b ≠ P → b ≠ c' → upd (upd H P (.tbl (ps ++ #[rawInt pos.line, rawInt pos.col, .ref c']))) c' (CodeO c' q) b = H b := fun b h1 h2 => by rw [upd_ne h2, upd_ne h1]
  have atP : upd (upd H P (.tbl (ps ++ #[rawInt pos.line, rawInt pos.col, .ref c']))) c' (CodeO c' q) P = some (.tbl (ps ++ #[rawInt pos.line, rawInt pos.col, .ref c'])) := by rw [upd_ne nPc, upd_same]
  have keep : KpA H (upd (upd H P (.tbl (ps ++ #[rawInt pos.line, rawInt pos.col, .ref c']))) c' (CodeO c' q)) := fun b u e => by
    by_cases hb : b = P
    · rw [hb, hP] at e
      cases e
      rw [hb, atP]
      exact ⟨_, rfl⟩
    · rw [away b hb (ne_of_none e nC)]
      exact .of e
  have code : ∀ c0, H c0 = some (CodeO c0 q) → upd (upd H P (.tbl (ps ++ #[rawInt pos.line, rawInt pos.col, .ref c']))) c' (CodeO c' q) c0 = some (CodeO c0 q) := fun c0 e => keep c0 _ e
  obtain ⟨ps0, g1, g2, g3⟩ := t.1 _ hm
  have ep : ps0 = ps := by
    have z := g1.symm.trans hP
    cases z
    rfl
  subst ep
  have eL : (ps0 ++ #[rawInt pos.line, rawInt pos.col, .ref c']).toList = ps0.toList ++ [rawInt pos.line, rawInt pos.col, .ref c'] := by simp
  refine ⟨keep, fun p hp => ?_, fun b qs e => ?_⟩
  · by_cases hb : p.1 = P
    · have hq := hu p hp hb
      refine ⟨_, by rw [hb]; exact atP, by rw [eL]; exact PySem.TriplesOk_snoc _ _ _ _ g2, fun p' cv hcv => ?_⟩
      rw [eL] at hcv
      rw [hq]
      refine (among_app _ g2 hcv).elim (fun z => ?_) fun z => ⟨c', z, upd_same⟩
      exact (g3 p' cv z).imp fun c0 ⟨e1, e2⟩ => ⟨e1, code c0 e2⟩
    · obtain ⟨ps', a1, a2, a3⟩ := t.1 p hp
      refine ⟨ps', by rw [away _ hb (ne_of_none a1 nC)]; exact a1, a2, fun p' cv hcv => ?_⟩
      exact (a3 p' cv hcv).imp fun c0 ⟨e1, e2⟩ => ⟨e1, keep c0 _ e2⟩
  · by_cases hb : b = P
    · trivial
    · by_cases hc : b = c'
      · rw [hc, upd_same] at e
        have e : some (HO.ext _) = some (HO.tbl qs) := e
        cases e
      · rw [away b hb hc] at e
        exact t.2 b qs e
theorem lam_new {c P : Addr} {params : Arguments} {body : Expr} {scope : Scope} {pos : Pos} {E : Value → Shared → Prop} {Q : Value → Shared → Prop} (I : Inv X pins σ H s) (TB : TabB X.base X.mg c P) (hcode : X.env.code = .ref c)
    (hm : (P, X.env.qual ++ "<lambda>") ∈ TabC.T) (hu : ∀ p ∈ TabC.T, p.1 = P → p.2 = X.env.qual ++ "<lambda>") (t : TbA H) (hdef : defaultsOf params X.env = ([], [])) (hfree : ∀ y ∈ scope.names, y.2 = .free → ∃ c, X.env.cells.lookup y.1 = some c)
    (h : ∀ (f c' : Addr) (pm ctv : Value) (H1 : Hp) (s' : Shared), Inv X pins σ H1 s' → KpA H H1 → TbA H1 →
      s'.heap.get? f = some (PySem.W.kla_obj "<lambda>" (X.env.qual ++ "<lambda>") params body scope (cloFrom X.env.cells scope.names []) pm c' ctv) → H1 f = none → f ∉ frs X.stack → H1 c' = some (CodeO c' (X.env.qual ++ "<lambda>")) → Q (.ref f) s') :
    wpAny (model X.prog X.w) X.A (eval (.Lambda params body scope pos) X.env) Q E s := by
  obtain ⟨ps, hP, ht, ha⟩ := t.1 _ hm
  have sP : s.heap.get? P = some { cls := .none, data := .fields ps } := I.hok P _ hP
  have out : ∀ f, s.heap.objs.size ≤ f → f ∉ frs X.stack := fun f hf z => (List.mem_cons.mp (I.stkSub _ z)).elim (fun e => by
    have lt := I.lt
    rw [← e] at lt
    exact Nat.lt_irrefl _ (Nat.lt_of_lt_of_le lt hf)) (I.nofs hf)
  refine PySem.W.kla_eval hdef ?_
  cases hc : codeAmong pos ps.toList with
  | some cv =>
    obtain ⟨c', e, hco⟩ := ha pos cv hc
    subst e
    refine PySem.W.kla_makeFunctionHit (mg := X.mg) (c := c) (P := P) (ps := ps) (closure_ok hfree) I.ok.glob (I.mod.glob.keeps I.bk) hcode (TB.code.keeps I.bk) sP ht hc (TB.bm.keeps I.bk) fun ctv h' tk hx hsz => ?_
    exact h _ c' _ ctv H _ (I.kept fun b o e => Heap.get?_push_of_some _ (hx b o e)) (fun b u e => .of e) t (Heap.get?_push_size _ rfl) (I.hok.fresh hsz) (out _ hsz) hco
  | none =>
    refine PySem.W.kla_makeFunction (mg := X.mg) (c := c) (P := P) (ps := ps) (closure_ok hfree) I.ok.glob (I.mod.glob.keeps I.bk) hcode (TB.code.keeps I.bk) sP ht hc TB.gP (TB.bm.keeps I.bk) fun c' ctv h' tk hx hge hlt hrec htb => ?_
    obtain ⟨c2, oc, vs, tt, e2, hoc, hd, hv⟩ := hrec
    cases e2
    have hsz : s.heap.objs.size ≤ h'.objs.size := Nat.le_trans hge (Nat.le_of_lt hlt)
    have nC : H c' = none := I.hok.fresh hge
    obtain ⟨kp, tb⟩ := tba_grow (pos := pos) t hP hm hu nC
    have J := inv_table (t' := tk) (more := #[rawInt pos.line, rawInt pos.col, .ref c']) (h' := h'.push (PySem.W.kla_obj "<lambda>" (X.env.qual ++ "<lambda>") params body scope (cloFrom X.env.cells scope.names []) ((X.mg "__name__").getD .none) c' ctv)) I hP
      (fun b o hb e => Heap.get?_push_of_some _ (hx b o hb e)) (Heap.get?_push_of_some _ htb) hge ⟨oc, vs, tt, Heap.get?_push_of_some _ hoc, hd, hv⟩
    refine h _ c' _ ctv _ _ J kp tb (Heap.get?_push_size _ rfl) ?_ (out _ hsz) upd_same
    have lP := Heap.lt_size sP
    rw [upd_ne (Nat.ne_of_gt hlt), upd_ne (Nat.ne_of_gt (Nat.lt_of_lt_of_le lP hsz))]
    exact I.hok.fresh hsz
end
def tLamA (TT : (XK → Hp → VK → Prop) → Hp → VK → Prop) (t : XK → TE) : TE := fun σ H Q => TbA H ∧ ∀ H1, KpA H H1 → TbA H1 → TT (fun E H' Q' => t E σ H' Q') H1 Q
section
variable {X : Cx}
theorem pe_tried {TT : (XK → Hp → VK → Prop) → Hp → VK → Prop} {x a : Str} {g c P : Addr} {k : Nat} {pg : Arguments} {bg : List Stmt} {sg : Scope} {dV kV doc pm cdv ct oc : Value} {an od : Option Addr} {osl : Array (Option Value)} {Ng : List Str}
    {params : Arguments} {body : Expr} {scope : Scope} {t : XK → TE} {p lpos pos : Pos} (hg : Gl X x) (hm : X.mg x = some (.ref g)) (hk : PySem.W.keepIn X.K (.ref g) = true)
    (lk : X.K.lookup g = some ⟨oc, od, .func (PySem.W.fnOf x x pg bg sg dV kV doc pm an cdv ct), osl⟩) (hcg : PySem.W.codeIn X.K cdv x = true) (hb : L2.Binds X.K (PySem.W.fnOf x x pg bg sg dV kV doc pm an cdv ct) [a] []) (Sg : FnScope Ng [a] sg) (hNg : Ng[0]? = some a) (hva : Vis sg a)
    (hG : GivesTo X Ng x sg g cdv bg a (X.env.qual ++ "<lambda>") TT)
    (TB : TabB X.base X.mg c P) (hcode : X.env.code = .ref c) (hmT : (P, X.env.qual ++ "<lambda>") ∈ TabC.T) (hu : ∀ p ∈ TabC.T, p.1 = P → p.2 = X.env.qual ++ "<lambda>") (hr : Room (k + 2) X.A) (L : LamS X.env.scope scope) (hdef : defaultsOf params X.env = ([], []))
    (hbind : ∀ (q : Str) (cl : List (Str × Addr)) (pm cv ctv : Value), bindArgs (PySem.W.kla_fn "<lambda>" q params body scope cl pm cv ctv) ⟨[], []⟩ = pure [])
    (hbody : ∀ (A : Around) (outer : List Env) (s : Shared) (H : Hp) (E : XK) (f c' : Addr), Room k (A.deeper (lamEnv X scope s.heap.objs.size f c')) → PE (lamCx X A outer s H E scope f c') body (t E))
    (hdb : (x == ("__debug__" : Str)) = false := by decide) (hd : (a == ("__debug__" : Str)) = false := by decide) (hcd : (a == ("__classdict__" : Str)) = false := by decide) :
    PE X (.Call (.Name x p) [.Lambda params body scope lpos] [] pos) (tLamA TT t) := by
  refine ⟨fun pins s σ H Q I ⟨hT, h⟩ => ?_⟩
  refine wpAny_Call_Name_kw (ld_glob I hg hm ?_ hdb)
  refine PySem.W.callWith_K (h₀ := X.base) I.ok.mod.kin hk ?_ (by rfl) (by rfl)
  show wpAny _ _ (spliced ((false, eval (.Lambda params body scope lpos) X.env) :: backTo pos (starEach [] X.env))) _ _ s
  refine Calls.spliced_cons (lam_new I TB hcode hmT hu hT hdef (L.has I.ok) fun f c' pm' ctv H1 s' J kp tb hf hfn hfr hco => ?_)
  refine Calls.spliced_nil ⟨J.kIn, ?_⟩
  have run : codeAny (model X.prog X.w) X.A (.call (.ref g) ⟨[.ref f], []⟩) (CR C8.CX0 X.stack X.prog X.w H1 s' Q C8.E0) s' := by
    refine run_ofS (N := Ng) (ps := [a]) (us := [.ref f]) (vs := [.ref f]) lk hcg Sg hr J.env0 (hb s' [.ref f] J.kIn rfl) (.cons rfl .nil) rfl fun hr' => ?_
    obtain ⟨t', pt, qt⟩ := hG f c' s' H1 Q (fun E H' Q' => t E σ H' Q') (fun W pn xe E p1 p2 tk hW => pe_act (i := 0) J L hf hfn hfr (hbind _ _ _ _ _) tk hW hr' (fun A outer s H hr2 => hbody A outer s H E f c' hr2) hNg hva hd hcd) hco (h H1 kp tb)
    exact ⟨t', pt.nox, qt⟩
  refine wpAny_call (codeAny_mono run fun r s2 hq => ?_)
  match r, hq with
  | .ok (.ret u), hq => exact J.after hq
  | .ok .next, hq => exact False.elim hq
  | .ok .brk, hq => exact False.elim hq
  | .ok .cont, hq => exact False.elim hq
  | .error e, hq => exact False.elim hq
end
end TR
namespace DL
open PySem PySem.Spec PyProof.Rows L2 LamX TR
variable [TabC]
/-! ### x(lambda: e) by data -/
def hvD : HV → List (Str × D) → Option D
  | .fld w f, fs => (fs.lookup f).map fun d => .tup [.str w, d]
  | .lst w f, fs => match fs.lookup f with
    | some (.lst xs) => some (.tup [.str w, .lst xs])
    | some (.tup xs) => some (.tup [.str w, .lst xs])
    | _ => none
  | .str w, _ => some (.str w)
  | .nonp w, _ => some (.tup [.str w, .non])
def okD1 : OKF → D → D
  | .drop, _ => .non
  | .told w, d => .tup [.str w, d]
abbrev HS := List (Str × Option Nat × HV)
def hpick : HS → Str → Option HV
  | [], _ => none
  | (C, _, v) :: r, c => if C = c then some v else hpick r c
def eTried (ok : OKF) (hs : HS) (O : List Nat) (m : EM D) : EM D := fun xq s n Q => ∃ (xq0 : XQ) (Q0 : D → Nat → Prop), (∀ x n', xq0 x n' → ∃ hv d, hpick hs x.1 = some hv ∧ hvD hv x.2 = some d ∧ Q d n') ∧ (∀ d n', Q0 d n' → Q (okD1 ok d) n') ∧ m xq0 (hideL s O) n Q0
theorem mn_tried {ok : OKF} {hs : HS} {O : List Nat} {m : EM D} : Mn (eTried ok hs O m) := fun xq s n Q Q' hq ⟨x0, q0, h1, h2, h3⟩ => ⟨x0, q0, fun x n' z => let ⟨hv, d, e1, e2, q⟩ := h1 x n' z; ⟨hv, d, e1, e2, hq _ _ q⟩, fun d n' z => hq _ _ (h2 d n' z), h3⟩
section
variable {K : PySem.W.Frag} {aS : Addr} {H H0 H1 : Hp} {A0 : A0T} {O : List Nat} {σ : L2.St} {s : Ev} {n : Nat}
theorem hideL_len : ∀ (s : Ev) (O : List Nat), (hideL s O).length = s.length
  | s, [] => rfl
  | s, i :: O => by rw [hideL, List.length_set, hideL_len s O]
theorem hideL_get : ∀ {s : Ev} {O : List Nat} {i : Nat} {d : D}, (hideL s O)[i]? = some (some d) → i ∉ O ∧ s[i]? = some (some d)
  | s, [], i, d, h => ⟨by simp, h⟩
  | s, j :: O, i, d, h => by
    rw [hideL] at h
    by_cases z : j = i
    · subst z
      rcases Nat.lt_or_ge j (hideL s O).length with y | y
      · rw [List.getElem?_set_self y] at h; cases h
      · rw [List.getElem?_eq_none (by rw [List.length_set]; exact y)] at h; cases h
    · rw [List.getElem?_set_ne z] at h
      obtain ⟨h1, h2⟩ := hideL_get h
      exact ⟨by simp [h1, Ne.symm z], h2⟩
/-- what slots own is out of sight -/
theorem SR.seal (S : SR K aS O A0 H0 σ H s n) : SR K aS [] ⟨AV aS A0 O σ, none⟩ H σ H (hideL s O) n where
  len := by rw [hideL_len]; exact S.len
  sh := fun i d e _ => by
    obtain ⟨h1, h2⟩ := hideL_get e
    obtain ⟨v, ev, r⟩ := S.sh i d h2 h1
    refine ⟨v, ev, Rep.mono (sub_le fun b z => ?_) _ _ r⟩
    rcases z with z | z | ⟨j, hj, _⟩
    · exact z
    · exact .inr (.inl z)
    · cases hj
  ow := fun i hi => nomatch hi
  ds := fun i j b hi => nomatch hi
  fr := KpS.refl
  st := S.st
  av := fun a h => S.cn.dom a h
  pn := fun hi => nomatch hi
theorem kps_of (k : KpA H H1) : KpS aS H H1 := fun b u e _ => k b u e
theorem StA.kpa (st : StA K aS H n) (k : KpA H H1) (t : TbA H1) : StA K aS H1 n := by
  obtain ⟨a0, cs, i, g, m, d, e, h1, ⟨o, h2⟩, h3, h4, h5, h6, h7, h8, _⟩ := st
  exact ⟨a0, cs, i, g, m, d, k _ (.lst _) e, h1, ⟨o, k _ (.frz o (.lst (cs.map V.int))) h2⟩, h3, h4, h5, h6, h7, h8, t⟩
end
/-- where a lambda is entered -/
abbrev LC := Around × List Env × Shared × Hp × Addr × Addr
section
variable {X : Cx} {E : XK} {O : List Nat} {x : Str} {Ng : List Str} {sg : Scope} {g : Addr} {ok : OKF} {hs : HS} {params : Arguments} {body : Expr} {scope : Scope} {m : EM D} {k : Nat} {p lpos pos : Pos}
/-- the clauses over addresses -/
def hsA (K : PySem.W.Frag) (hs : HS) : List HE := hs.map fun e => (He.ga K e.1, e.2.1, e.2.2)
theorem hw_of {K : PySem.W.Frag} {aS : Addr} {A : AS} {H1 H' : Hp} {n : Nat} {Q : VK} {C : Str} {fs : List (Str × D)} {d : Option Addr} (hA : A aS) (c : Cn K aS H' A n) (r : match d with | none => fs = [] | some a => ∃ ys, H1 a = none ∧ H' a = some (.xd ys) ∧ RepF K aS H' A fs ys) {hv : HV} {y : D}
    (ey : hvD hv fs = some y) (q : ∀ v H2, KpS aS H' H2 → StA K aS H2 n → Rep K aS H2 A y v → Q v H2) :
    ∀ (hs : HS), (∀ e ∈ hs, PySem.W.exmOne K (.ref (He.ga K C)) (.ref (He.ga K e.1)) = some (decide (e.1 = C))) → hpick hs C = some hv → hw K Q (hsA K hs) (.ref (He.ga K C)) d H'
  | [], _, h => by cases h
  | (C1, o, v1) :: hs, hx, h => by
    refine ⟨_, hx _ List.mem_cons_self, fun e => ?_, fun e => ?_⟩
    · have e1 : C1 = C := of_decide_eq_true e
      rw [hpick, if_pos e1] at h
      have ev : v1 = hv := Option.some.inj h
      rw [← ev] at ey
      clear e ev h
      subst e1
      show hvW K (He.ga K C1) (.ref (He.ga K C1)) d H' Q v1
      cases v1 with
      | fld w f =>
        cases d with
        | none =>
          have r : fs = [] := r
          subst r
          cases ey
        | some a =>
          obtain ⟨ys, h1, h2, h3⟩ := r
          rcases repF_look f h3 with z | ⟨d1, u, z1, z2, z3⟩
          · have ey : (fs.lookup f).map _ = some y := ey
            rw [z.1] at ey; cases ey
          · have ey : (fs.lookup f).map _ = some y := ey
            rw [z1] at ey
            cases ey
            refine ⟨rfl, a, ys, u, rfl, h2, z2, fun p hp => q _ _ (KpS.upd hp) (c.st.upd hp) (rep_tup (.inl upd_same) ?_)⟩
            exact RepL.kp (KpS.upd hp) c.st hA (RepL.cons rep_str (RepL.cons z3 RepL.nil))
      | lst w f =>
        cases d with
        | none =>
          have r : fs = [] := r
          subst r
          cases ey
        | some a =>
          obtain ⟨ys, h1, h2, h3⟩ := r
          rcases repF_look f h3 with z | ⟨d1, u, z1, z2, z3⟩
          · simp only [hvD, z.1] at ey
            cases ey
          · simp only [hvD, z1] at ey
            have fin : ∀ (pp : Addr) (xs : List V) (ds : List D), u = .ref pp → (SqL K H' pp xs ∨ SqT K H' pp xs) → RepL K aS H' A ds xs → y = .tup [.str w, .lst ds] → hvW K (He.ga K C1) (.ref (He.ga K C1)) (some a) H' Q (.lst w f) := fun pp xs ds eu hsq rl ey => by
              subst eu ey
              refine ⟨rfl, a, ys, pp, xs, rfl, h2, z2, hsq, fun l hl t ht => q _ _ ((KpS.upd hl).trans (KpS.upd ht)) ((c.st.upd hl).upd ht) (rep_tup (.inl upd_same) ?_)⟩
              have o1 : Own K aS (upd H' l (.lst xs)) (fun b => A b ∨ b = l) l (.lst ds) := own_new hl rl
              exact RepL.kp (KpS.upd ht) (c.st.upd hl) hA (RepL.cons rep_str (RepL.cons (o1.rep (c.new hl)) RepL.nil))
            cases d1 with
            | lst ds =>
              cases ey
              rw [Rep] at z3
              obtain ⟨pp, xs, eu, _, hq, rl⟩ := z3
              exact fin pp xs ds eu (.inl (SqL.of hq)) rl rfl
            | tup ds =>
              cases ey
              rw [Rep] at z3
              obtain ⟨pp, xs, eu, hq, rl⟩ := z3
              exact fin pp xs ds eu (.inr hq.sq) rl rfl
            | _ => cases ey
      | str w =>
        cases ey
        exact q _ _ KpS.refl c.st rep_str
      | nonp w =>
        cases ey
        intro p hp
        exact q _ _ (KpS.upd hp) (c.st.upd hp) (rep_tup (.inl upd_same) (RepL.cons rep_str (RepL.cons rep_non RepL.nil)))
    · have e : C1 ≠ C := of_decide_eq_false e
      rw [hpick, if_neg e] at h
      exact hw_of hA c r ey q hs (fun e he => hx e (List.mem_cons_of_mem _ he)) h
end
end DL
namespace DL
open PySem PySem.Spec PyProof.Rows L2 LamX TR
variable [TabC]
/-- the def x that tries what it got -/
structure GTr (P : Program) (w : World) (K : PySem.W.Frag) (mg : Str → Option Value) (base : Heap) (x : Str) (ok : OKF) (hs : HS) : Prop where
  ex : ∃ (Ng : List Str) (a : Str) (sg : Scope) (g : Addr) (oc : Value) (od : Option Addr) (pg : Arguments) (bg : List Stmt) (dV kV doc pm : Value) (an : Option Addr) (cdv ct : Value) (osl : Array (Option Value)),
    mg x = some (.ref g) ∧ PySem.W.keepIn K (.ref g) = true ∧ K.lookup g = some ⟨oc, od, .func (PySem.W.fnOf x x pg bg sg dV kV doc pm an cdv ct), osl⟩ ∧ PySem.W.codeIn K cdv x = true ∧ L2.Binds K (PySem.W.fnOf x x pg bg sg dV kV doc pm an cdv ct) [a] [] ∧ FnScope Ng [a] sg ∧ Ng[0]? = some a ∧ 2 ≤ Ng.length ∧ Vis sg a ∧
    (a == ("__debug__" : Str)) = false ∧ (a == ("__classdict__" : Str)) = false ∧ ∀ X : Cx, X.prog = P → X.w = w → X.K = K → X.mg = mg → X.base = base → ∀ q, GivesTo X Ng x sg g cdv bg a q (TTried K Ng ok (hsA K hs))
  exm : ∀ e ∈ hs, ∀ e' ∈ hs, PySem.W.exmOne K (.ref (He.ga K e.1)) (.ref (He.ga K e'.1)) = some (decide (e'.1 = e.1))
theorem hpick_mem : ∀ {hs : HS} {C : Str} {v : HV}, hpick hs C = some v → ∃ e ∈ hs, e.1 = C
  | [], _, _, h => by cases h
  | (C1, o, v1) :: hs, C, v, h => by
    rw [hpick] at h
    split at h
    · rename_i e
      exact ⟨_, List.mem_cons_self, e⟩
    · obtain ⟨e, he, z⟩ := hpick_mem h
      exact ⟨e, List.mem_cons_of_mem _ he, z⟩
section
variable {X : Cx} {E : XK} {O : List Nat} {x : Str} {ok : OKF} {hs : HS} {params : Arguments} {body : Expr} {scope : Scope} {m : EM D} {k k' : Nat} {p lpos pos : Pos} {c P : Addr}
theorem ve_tried (G : GTr X.prog X.w X.K X.mg X.base x ok hs) (hg : Gl X x) (TB : TabB X.base X.mg c P) (hcode : X.env.code = .ref c) (hmT : (P, X.env.qual ++ "<lambda>") ∈ TabC.T) (hu : ∀ p ∈ TabC.T, p.1 = P → p.2 = X.env.qual ++ "<lambda>") (hr : Room k' X.A) (hk : k + 2 ≤ k')
    (L0 : LamS X.env.scope scope) (hdef : defaultsOf params X.env = ([], [])) (hbind : ∀ (q : Str) (cl : List (Str × Addr)) (pm cv ctv : Value), bindArgs (PySem.W.kla_fn "<lambda>" q params body scope cl pm cv ctv) ⟨[], []⟩ = pure [])
    (hL : ∀ (A : Around) (outer : List Env) (s : Shared) (H : Hp) (E : XK) (f c' : Addr), Room k (A.deeper (lamEnv X scope s.heap.objs.size f c')) → VE (lamCx X A outer s H E scope f c') (EU H E) [] body m)
    (hdb : (x == ("__debug__" : Str)) = false := by decide) : VE X E O (.Call (.Name x p) [.Lambda params body scope lpos] [] pos) (eTried ok hs O m) := by
  obtain ⟨Ng, a, sg, g, oc, od, pg, bg, dV, kV, doc, pm, an, cdv, ct, osl, h1, h2, h3, h4, h5, h6, h7, h7b, h8, h9, h10, hG⟩ := G.ex
  -- one reading for all places
  let Ok (E : XK) (z : LC) : Prop := Room k (z.1.deeper (lamEnv X scope z.2.2.1.heap.objs.size z.2.2.2.2.1 z.2.2.2.2.2))
  have hc : ∀ (E : XK) (z : LC) (h : Ok E z), VE (lamCx X z.1 z.2.1 z.2.2.1 z.2.2.2.1 E scope z.2.2.2.2.1 z.2.2.2.2.2) (EU z.2.2.2.1 E) [] body m := fun E z h => hL z.1 z.2.1 z.2.2.1 z.2.2.2.1 E _ _ h
  let t (E : XK) : TE := fun σ H Q => ∀ (z : LC) (h : Ok E z), Classical.choose (hc E z h).2 σ H Q
  have hbody : ∀ (A : Around) (outer : List Env) (s : Shared) (H : Hp) (E : XK) (f c' : Addr), Room k (A.deeper (lamEnv X scope s.heap.objs.size f c')) → PE (lamCx X A outer s H E scope f c') body (t E) := fun A outer s H E f c' hr =>
    ⟨fun pins s1 σ H1 Q I q => (Classical.choose_spec (hc E (A, outer, s, H, f, c') hr).2).1.run pins s1 σ H1 Q I (q (A, outer, s, H, f, c') hr)⟩
  refine ⟨mn_tried, _, pe_tried (k := k) hg h1 h2 h3 h4 h5 h6 h7 h8 (hG X rfl rfl rfl rfl rfl _) TB hcode hmT hu (DL.Room.le hr hk) L0 hdef hbind hbody hdb h9 h10, fun aS A0 H0 σ H s n xq Q S L hm => ?_⟩
  obtain ⟨xq0, Q0, hx, hq, hmm⟩ := hm
  have tb0 : TbA H := by
    obtain ⟨_, _, _, _, _, _, _, _, _, _, _, _, _, _, _, z⟩ := S.st
    exact z
  refine ⟨tb0, fun H1 kp tb f => ?_⟩
  have S1 := S.step (kps_of kp) (S.st.kpa kp tb)
  have S2 := S1.seal
  have eA : AV aS (AV aS A0 O σ) [] [] = AV aS A0 O σ := AV.of AV.st
  have eB : AV aS (AV aS A0 O σ) [] σ = AV aS A0 O σ := by
    funext b
    refine propext ⟨fun z => ?_, fun z => .inl z⟩
    rcases z with z | z | ⟨j, hj, _⟩
    · exact z
    · exact .inr (.inl z)
    · cases hj
  let Ech : XK := fun cls d H' => ∃ (C : Str) (fs : List (Str × D)) (n' : Nat), cls = .ref (He.ga X.K C) ∧ KpS aS H1 H' ∧ StA X.K aS H' n' ∧ (match d with | none => fs = [] | some a => ∃ ys, H1 a = none ∧ H' a = some (.xd ys) ∧ RepF X.K aS H' (AV aS A0 O σ) fs ys) ∧ xq0 (C, fs) n'
  have LE : LX X.K Ech aS (AV aS A0 O σ) H1 xq0 := fun C fs n' d H' k1 st1 r1 q1 => ⟨C, fs, n', rfl, k1, st1, by rw [eA] at r1; exact r1, q1⟩
  refine ⟨Ech, fun cls d H' z => ?_, fun z h => ?_⟩
  · obtain ⟨C, fs, n', ec, k1, st1, r1, q1⟩ := z
    subst ec
    obtain ⟨hv, y, ep, ey, qy⟩ := hx _ _ q1
    have c1 : Cn X.K aS H' (AV aS A0 O σ) n' := (S1.step k1 st1).cn
    obtain ⟨e0, he0, hC⟩ := hpick_mem ep
    have hC : e0.1 = C := hC
    refine hw_of AV.st c1 r1 ey (fun v H2 k2 st2 r2 => qy v H2 (((kps_of kp).trans k1).trans k2) st2 r2) hs (fun e he => ?_) ep
    rw [← hC]
    exact G.exm e0 he0 e he
  · refine (Classical.choose_spec (hc Ech z h).2).2 aS ⟨AV aS A0 O σ, none⟩ H1 σ H1 (hideL s O) n xq0 _ S2 LE.eu ((hc Ech z h).1 _ _ _ _ _ (fun d n' q v H' k1 st1 r1 => ?_) hmm)
    have r1 : Rep X.K aS H' (AV aS A0 O σ) d v := by rw [← eB]; exact r1
    have q2 := hq d n' q
    have hl : 1 < (L2.start Ng [V.ref f]).length := by
      unfold L2.start
      rw [List.length_append, List.length_map, List.length_replicate]
      show 1 < 1 + (Ng.length - 1)
      omega
    cases ok with
    | drop => exact ⟨.non, List.getElem?_set_self hl, q2 .non H' ((kps_of kp).trans k1) st1 rep_non⟩
    | told w =>
      refine ⟨by rw [sizeLine_eq]; decide, fun pp hp => ⟨.ref pp, List.getElem?_set_self (by rw [List.length_set]; exact hl), ?_⟩⟩
      refine q2 (.ref pp) _ (((kps_of kp).trans k1).trans (KpS.upd hp)) (st1.upd hp) (rep_tup (.inl upd_same) ?_)
      exact RepL.kp (KpS.upd hp) st1 AV.st (RepL.cons rep_str (RepL.cons r1 RepL.nil))
end
end DL
namespace HX
open PySem L2 He
/-! what is asked of an error's class -/
def oexK (K : PySem.W.Frag) (C : Addr) : Bool := match K.lookup C with
  | some ⟨.type "type", _, .cls cd, sl⟩ => (match cd.mro, sl.toList with
    | .ref C' :: bm, [_, _, _, _, some (.builtin n), _] => (decide (C' = C) && decide (n = "ValueError.__new__")) && ((!cd.hasDel && cd.hasDict) && PySem.HandSPX.refsVE bm)
    | _, _ => false)
  | _ => false
def oexB (K : PySem.W.Frag) (C : Addr) : Bool := oexK K C && (decide (PySem.W.findIn K (.ref C) "__setattr__" = some (some (.builtin "object.__setattr__"))) && (decide (PySem.W.subIn K (.ref C) (.type "BaseException") = some true) && (decide (PySem.W.typeIn K (.ref C) = some (.type "type")) && PySem.W.keepIn K (.ref C))))
theorem oexB_ok {K : PySem.W.Frag} {C : Addr} (h : oexB K C = true) : OexC K C := by
  obtain ⟨h1, h⟩ := ba h
  obtain ⟨h2, h⟩ := ba h
  obtain ⟨h3, h⟩ := ba h
  obtain ⟨h4, h5⟩ := ba h
  refine ⟨?_, of_decide_eq_true h2, of_decide_eq_true h3, of_decide_eq_true h4, h5⟩
  unfold oexK at h1
  split at h1
  · rename_i dd cd sl lk
    split at h1
    · rename_i C' bm k0 k1 k2 k3 n k5 em es
      obtain ⟨a1, a2⟩ := ba h1
      obtain ⟨b1, b2⟩ := ba a1
      obtain ⟨c1, c2⟩ := ba a2
      obtain ⟨d1, d2⟩ := ba c1
      have e1 := of_decide_eq_true b1
      have e2 := of_decide_eq_true b2
      obtain ⟨nm, bs, mro, ns, qn, hd, sn, sub, ab, col, del⟩ := cd
      obtain ⟨sl⟩ := sl
      have em : mro = .ref C' :: bm := em
      have es : sl = [k0, k1, k2, k3, some (.builtin n), k5] := es
      have d1 : (!del) = true := d1
      have d2 : hd = true := d2
      have d1 : del = false := by cases del <;> first | rfl | cases d1
      clear a1 a2 b1 b2 c1 h1 h2 h3 h4 h5 h
      subst e1 e2
      rw [em, es, d1, d2] at lk
      exact ⟨nm, qn, ns, bs, bm, sn, sub, ab, col, dd, k0, k1, k2, k3, k5, lk, c2⟩
    · cases h1
  · cases h1
/-! its __init__ -/
abbrev FnE : Type := Option (Str × Str × Arguments × FuncBody × Scope × Addr × List Str × Addr × Bool)
def plainD (fd : FuncData) : Bool := decide (fd.defaults = .none) && (decide (fd.kwdefaults = .none) && fd.annotations.isNone)
def fnE (K : PySem.W.Frag) (f : Addr) : FnE := match K.lookup f with
  | some ⟨_, _, .func fd, _⟩ => some (fd.name, fd.qualname, fd.params, fd.body, fd.scope, fd.globals, fd.closure.map (·.1), fd.builtins, plainD fd)
  | _ => none
/-- its code object, the cell of its class -/
def codB (P : Program) (K : PySem.W.Frag) (C f : Addr) (q : Str) : Bool := match K.lookup f with
  | some ⟨_, _, .func fd, _⟩ => (match fd.code with
    | .ref c => PySem.W.codeIn K (.ref c) q && (match K.lookup c with
      | some ⟨_, _, .fields vs, _⟩ => (match (vs[2]? : Option Value) with
        | some (.str fl _) => (P.main.file : Str) == fl
        | _ => false)
      | _ => false)
    | _ => false) && (match fd.closure with
    | [(_, cc)] => (match K.lookup cc with
      | some ⟨_, _, .cell (some (.ref C')), _⟩ => decide (C' = C)
      | _ => false)
    | _ => false)
  | _ => false
structure ErrD where
  x : Str
  qual : Str
  params : Arguments
  body : List Stmt
  scope : Scope
  fl : List Str
def ErrD.f (K : PySem.W.Frag) (d : ErrD) : Addr := ma K (ga K d.x) "__init__"
def ErrD.val (d : ErrD) : FnE := some ("__init__", d.qual, d.params, .stmts d.body, d.scope, mainGlobals, ["__class__"], builtinsNs, true)
def ErrD.ok (P : Program) (K : PySem.W.Frag) (d : ErrD) : Bool := (eqO (PySem.W.nsIn K mainGlobals d.x) (some (some (.ref (ga K d.x)))) && oexB K (ga K d.x)) && ((eqO (PySem.W.findIn K (.ref (ga K d.x)) "__init__") (some (some (.ref (d.f K)))) && decide (PySem.W.typeIn K (.ref (d.f K)) = some (.type "function"))) &&
  ((codB P K (ga K d.x) (d.f K) d.qual && decide (PySem.W.mroIn K (ga K d.x) (.ref (ga K d.x)) = some true)) && ((decide (PySem.W.ks_superIn K (ga K d.x) (ga K d.x) "__init__" = some (some (.builtin ES.VI))) && decide (PySem.W.subIn K (.ref (ga K d.x)) (.type "ValueError") = some true)) &&
  (eqO (PySem.W.nsIn K cStatics "thirdparty.any") (some none) && d.fl.all fun g => eqO (PySem.W.findIn K (.ref (ga K d.x)) g) (some none)))))
theorem err_ok {P : Program} {K : PySem.W.Frag} {d : ErrD} (e : fnE K (d.f K) = d.val) (c : d.ok P K = true) (ht : (P.main.scope.names.lookup ("super" : Str)).isSome = false) : PySem.W.nsIn K mainGlobals d.x = some (some (.ref (ga K d.x))) ∧ OexC K (ga K d.x) ∧ PySem.W.findIn K (.ref (ga K d.x)) "__init__" = some (some (.ref (d.f K))) ∧ PySem.W.typeIn K (.ref (d.f K)) = some (.type "function") ∧
    (∀ g ∈ d.fl, PySem.W.findIn K (.ref (ga K d.x)) g = some none) ∧ ∃ (F : NdefX.NF) (oc : Value) (od : Option Addr) (doc pm ctv : Value) (osl : Array (Option Value)), ES.SupF P K (ga K d.x) (d.f K) F ∧ K.lookup (d.f K) = some ⟨oc, od, .func (F.fd doc pm ctv), osl⟩ ∧ F.name = "__init__" ∧ F.qual = d.qual ∧ F.params = d.params ∧ F.body = d.body ∧ F.scope = d.scope := by
  obtain ⟨c1, c⟩ := ba c
  obtain ⟨a1, a2⟩ := ba c1
  obtain ⟨c2, c⟩ := ba c
  obtain ⟨b1, b2⟩ := ba c2
  obtain ⟨c3, c⟩ := ba c
  obtain ⟨g1, g2⟩ := ba c3
  obtain ⟨c4, c⟩ := ba c
  obtain ⟨h1, h2⟩ := ba c4
  obtain ⟨h3, h4⟩ := ba c
  refine ⟨eqO_ok a1, oexB_ok a2, eqO_ok b1, of_decide_eq_true b2, fun g hg => eqO_ok (List.all_eq_true.mp h4 g hg), ?_⟩
  unfold codB at g1
  unfold fnE at e
  cases lk : K.lookup (d.f K) with
  | none => rw [lk] at g1; cases g1
  | some o =>
    obtain ⟨oc, od, dt, osl⟩ := o
    rw [lk] at g1 e
    cases dt with
    | func fd =>
      obtain ⟨n1, n2, n3, n4, n5, n6, n7, n8, n9, n10, n11, n12, n13, n14, n15⟩ := fd
      have e2 : (some (n1, n2, n3, n4, n5, n6, n7.map (·.1), n15, plainD ⟨n1, n2, n3, n4, n5, n6, n7, n8, n9, n10, n11, n12, n13, n14, n15⟩) : FnE) = some (("__init__" : Str), d.qual, d.params, FuncBody.stmts d.body, d.scope, mainGlobals, [("__class__" : Str)], builtinsNs, true) := e
      simp only [Option.some.injEq, Prod.mk.injEq] at e2
      obtain ⟨i1, i2, i3, i4, i5, i6, i7, i8, i9⟩ := e2
      obtain ⟨j1, j2⟩ := ba i9
      obtain ⟨j2, j3⟩ := ba j2
      have q1 : n8 = .none := of_decide_eq_true j1
      have q2 : n9 = .none := of_decide_eq_true j2
      have q3 : n12 = none := Option.isNone_iff_eq_none.mp j3
      clear j1 j2 j3 i9 e
      subst i1 i2 i3 i4 i5 i6 i8 q1 q2 q3
      obtain ⟨k1, k2⟩ := ba g1
      dsimp only at k1 k2
      cases n13 with
      | ref cd =>
        obtain ⟨l1, l2⟩ := ba k1
        have fil : ∃ (ccl : Value) (cdd : Option Addr) (vs : Array Value) (ccs : Array (Option Value)) (fl : Str) (tf : Tok), K.lookup cd = some ⟨ccl, cdd, .fields vs, ccs⟩ ∧ vs[2]? = some (.str fl tf) ∧ ((P.main.file : Str) == fl) = true := by
          split at l2
          · rename_i c1 c2 vs c3 lc
            split at l2
            · rename_i fl tf ev
              exact ⟨c1, c2, vs, c3, fl, tf, lc, ev, l2⟩
            · cases l2
          · cases l2
        have cel : ∃ (cc : Addr) (o : Value) (dd : Option Addr) (sl : Array (Option Value)), n7 = [(("__class__" : Str), cc)] ∧ K.lookup cc = some ⟨o, dd, .cell (some (.ref (ga K d.x))), sl⟩ := by
          split at k2
          · rename_i z cc
            split at k2
            · rename_i c1 c2 C' c3 lc
              have eC := of_decide_eq_true k2
              rw [eC] at lc
              have ez : z = ("__class__" : Str) := by simpa using i7
              exact ⟨cc, c1, c2, c3, by rw [ez], lc⟩
            · cases k2
          · cases k2
        refine ⟨⟨"__init__", d.qual, d.params, d.body, d.scope, n7, cd⟩, oc, od, n10, n11, n14, osl, ⟨⟨oc, od, n10, n11, n14, osl, lk⟩, l1, fil, cel, of_decide_eq_true g2, of_decide_eq_true h1, of_decide_eq_true h2, eqO_ok h3, ht⟩, rfl, rfl, rfl, rfl, rfl, rfl⟩
      | _ => cases k1
    | _ => cases g1
/-! ### the Hook -/
structure SaysE (P : Program) (fa : List Fa) (fn : List DefD) (er : List ErrD) (tf : List Defn) (ex : PySem.W.Frag → Bool) (w : World) (h : Heap) (K : PySem.W.Frag) : Prop where
  d : SaysD fa fn K
  more : ex K = true
  errs : er.map (fun e => fnE K (e.f K)) = er.map ErrD.val
  eok : ∀ e ∈ er, e.ok P K = true
  hd : ∀ p ∈ tf, PySem.W.codeHdIn K (cT K p).1 (cT K p).2 = true
  out : ∀ p ∈ tf, K.lookup (cT K p).2 = none
  empty : ∀ p ∈ tf, h.get? (cT K p).2 = some { cls := .none, data := .fields #[] }
/-- the addresses looked at -/
def addN1 (p : List Addr × List Addr) (a : Addr) : List Addr × List Addr := match p.1.any (Nat.beq a) with
  | true => p
  | false => (a :: p.1, a :: p.2)
def leafE (o : Obj) : List Addr := match o.data with
  | .func fd => refV fd.code
  | _ => []
def kidsE (o : Obj) : List Addr := match o.data with
  | .func fd => refV fd.defaults ++ refV fd.kwdefaults ++ fd.closure.map (·.2)
  | _ => refsD o
def addL1 (p : List Addr × List Addr) (a : Addr) : List Addr × List Addr := (a :: p.1, p.2)
def bfsD (g : Addr → Option Obj) : Nat → List Addr → List Addr → List Addr
  | 0, _, seen => seen
  | n + 1, fr, seen => match fr.foldl (fun p a => match g a with
      | some o => (leafE o).foldl addL1 ((kidsE o).foldl addN1 p)
      | none => p) (seen, []) with
    | (seen', new) => bfsD g n new seen'
def asE (g : Addr → Option Obj) (n : Nat) : List Addr := bfsD g n [mainGlobals, cStatics] [mainGlobals, cStatics]
abbrev AlE : Type := AlD × Bool × List FnE
def obsE (P : Program) (n : Nat) (fa : List Fa) (fn : List DefD) (er : List ErrD) (tf : List Defn) (ex : PySem.W.Frag → Bool) (g : Addr → Option Obj) : AlE :=
  (obsD fa fn (frT g (asE g n)), (ex (frT g (asE g n)) && er.all fun e => e.ok P (frT g (asE g n))) && tabsB g tf (frT g (asE g n)), er.map fun e => fnE (frT g (asE g n)) (e.f (frT g (asE g n))))
def valE (fn : List DefD) (er : List ErrD) : AlE := (valD fn, true, er.map ErrD.val)
theorem saysE_of {P : Program} {n : Nat} {fa : List Fa} {fn : List DefD} {er : List ErrD} {tf : List Defn} {ex : PySem.W.Frag → Bool} {w : World} {h : Heap} (e : obsE P n fa fn er tf ex h.get? = valE fn er) : SaysE P fa fn er tf ex w h (frT h.get? (asE h.get? n)) := by
  have e1 : obsD fa fn (frT h.get? (asE h.get? n)) = valD fn := congrArg (fun z : AlE => z.1) e
  have e2 := congrArg (fun z : AlE => z.2.1) e
  have e3 := congrArg (fun z : AlE => z.2.2) e
  obtain ⟨h1, h2⟩ := ba e2
  obtain ⟨h0, h1⟩ := ba h1
  have look : ∀ p ∈ tf, PySem.W.codeHdIn (frT h.get? (asE h.get? n)) (cT (frT h.get? (asE h.get? n)) p).1 (cT (frT h.get? (asE h.get? n)) p).2 = true ∧ ∃ o, h.get? (cT (frT h.get? (asE h.get? n)) p).2 = some o ∧ emptyTab o = true := fun p hp => by
    obtain ⟨h3, h4⟩ := ba (List.all_eq_true.mp h2 p hp)
    refine ⟨h3, ?_⟩
    revert h4
    cases h.get? (cT (frT h.get? (asE h.get? n)) p).2 with
    | none => intro z; cases z
    | some o => intro z; exact ⟨o, rfl, z⟩
  exact { d := e1, more := h0, errs := e3, eok := fun e he => List.all_eq_true.mp h1 e he, hd := fun p hp => (look p hp).1,
          out := fun p hp => let ⟨_, _, q, z⟩ := look p hp; frT_none q z,
          empty := fun p hp => let ⟨_, _, q, z⟩ := look p hp; by rw [q, emptyTab_eq z] }
def hookE (P : Program) (n : Nat) (fa : List Fa) (fn : List DefD) (er : List ErrD) (tf : List Defn) (ex : PySem.W.Frag → Bool) : PySem.W.Hook where
  α := AlE
  obs := fun s => obsE P n fa fn er tf ex s.heap.get?
  val := fun _ => valE fn er
  says := fun w h => ∃ K : PySem.W.Frag, K.In h ∧ SaysE P fa fn er tf ex w h K
  of := fun _ _ e => ⟨_, frT_in, saysE_of e⟩
  keeps := fun _ _ _ ⟨K, hK, c⟩ k => ⟨K, PySem.W.Frag.In.keeps hK k, { c with empty := fun p hp => k _ _ (c.empty p hp) }⟩
theorem obsE_eq {P : Program} {n : Nat} {fa : List Fa} {fn : List DefD} {er : List ErrD} {tf : List Defn} {ex : PySem.W.Frag → Bool} {g : Addr → Option Obj} {s : Shared} (h : ∀ a, g a = s.heap.get? a) : obsE P n fa fn er tf ex g = (hookE P n fa fn er tf ex).obs s := by
  cases (funext h : g = s.heap.get?)
  rfl
theorem SaysE.err {P : Program} {fa : List Fa} {fn : List DefD} {er : List ErrD} {tf : List Defn} {ex : PySem.W.Frag → Bool} {w : World} {h : Heap} {K : PySem.W.Frag} (c : SaysE P fa fn er tf ex w h K) (i : Nat) {e : ErrD} (he : er[i]? = some e) : fnE K (e.f K) = e.val ∧ e.ok P K = true := by
  have z : (er.map fun e => fnE K (e.f K))[i]? = (er.map ErrD.val)[i]? := by rw [c.errs]
  rw [List.getElem?_map, List.getElem?_map, he] at z
  exact ⟨Option.some.inj z, c.eok e (List.mem_of_getElem? he)⟩
end HX
namespace HX
open PySem PySem.Spec PyProof.Rows L2 He DL
variable [TabC]
section
variable {P : Program} {w : World} {K : PySem.W.Frag} {mg : Str → Option Value} {base h : Heap} {d : ErrD} {slf0 fld y txt : Str} {jc : Nat} {pc p0 p1 p2 p3 p4 q1 q2 q3 q4 : Pos} {N ps : List Str}
/-- an error of one field -/
theorem gex1 (X : K.In h) (G : h.Ns mainGlobals mg) (z : fnE K (d.f K) = d.val ∧ d.ok P K = true) (ht : (P.main.scope.names.lookup ("super" : Str)).isSome = false) (fs : mg "super" = none)
    (hb : d.body = .Expr (ES.supCall (.Constant (.str txt) jc pc) p0 p1 p2 p3) p4 :: [ES.stF slf0 fld y q1 q2 q3 q4]) (hfl : d.fl = [fld]) (hN : N = [slf0, y, "__class__"]) (hps : ps = [slf0, y])
    (hsc : NdefX.nscB N ps ["__class__"] d.scope = true) (hsup : d.scope.names.lookup ("super" : Str) = some .globalImplicit) (hslf : d.scope.names.lookup slf0 = some .local) (hy : d.scope.names.lookup y = some .local)
    (hpar : ∃ ar : Arg, (d.params.posonlyargs ++ d.params.args).head? = some ar ∧ ar.arg = slf0) (hd0 : (slf0 == ("__debug__" : Str)) = false) (hd1 : (y == ("__debug__" : Str)) = false) (hc0 : (slf0 == ("__classdict__" : Str)) = false) (hc1 : (y == ("__classdict__" : Str)) = false)
    (hbind : ∀ (cl : List (Str × Addr)) (c : Addr) (doc pm ctv u v : Value), bindArgs (PySem.W.fnX "__init__" d.qual d.params d.body d.scope cl .none .none doc pm none (.ref c) ctv) { pos := [u, v] } = pure [(slf0, u), (y, v)])
    (hev : ∀ (F : NdefX.NF) (f L : Addr), F.scope = d.scope → F.qual = d.qual → ∃ pl : Sem Bool, eval (ES.supCall (.Constant (.str txt) jc pc) p0 p1 p2 p3) (NdefX.envF F f L) = (do
      let ov ← attributeBase (.Call (.Name "super" p0) [] [] p1) "__init__" (NdefX.envF F f L) (eval (.Call (.Name "super" p0) [] [] p1) (NdefX.envF F f L))
      standAt p2.atName
      let (g, first) ← holding [ov] (getMethod ov "__init__" pl)
      callWith p3 g first (backTo p3 (starEach [.Constant (.str txt) jc pc] (NdefX.envF F f L))) []))
    (hsw : ∀ (F : NdefX.NF) (f L : Addr), F.scope = d.scope → swapsWith (ES.supCall (.Constant (.str txt) jc pc) p0 p1 p2 p3) none p4.line (NdefX.envF F f L) = pure false)
    (hsw2 : ∀ (F : NdefX.NF) (f L : Addr), F.scope = d.scope → swapsWith (.Name y q3) (some (.Attribute (.Name slf0 q1) fld q2)) q4.line (NdefX.envF F f L) = pure false) : GEx P w K mg base d.x 1 [fld] := by
  obtain ⟨a1, T, a3, a4, a5, F, oc, od, doc, pm, ctv, osl, SF, lk, n1, n2, n3, n4, n5⟩ := err_ok z.1 z.2 ht
  have SS : ES.SupS slf0 N ps F := ⟨by rw [n5]; exact NdefX.nscope_by hsc, by rw [n5]; exact hsup, by rw [n5]; exact (NdefX.nscope_by hsc).frk _ (List.mem_singleton.mpr rfl), by rw [n5]; exact hslf, by rw [n3]; exact hpar, by rw [hN]; rfl⟩
  have hf : PySem.W.findIn K (.ref (ga K d.x)) fld = some none := a5 fld (by rw [hfl]; exact List.mem_singleton.mpr rfl)
  refine ⟨d.f K, F.fd doc pm ctv, ps, ?_, T, a3, a4, ?_, ?_⟩
  · exact He.glo_ok X G (show eqO _ _ = true from decide_eq_true a1)
  · refine .all fun us hl => ?_
    rw [hps] at hl ⊢
    match us, hl with
    | [u, v], _ =>
      have e := hbind F.cl F.c doc pm ctv u v
      rw [← n2, ← n3, ← n4, ← n5, ← n1] at e
      exact e
  · exact ES.init_of (n := 1) T SF SS fs lk (by rw [n4]; exact hb) (by rw [hps]; rfl) (fun L => hev F _ L n5 n2) (fun L => hsw F _ L n5) fun A outer s H E => ES.rest1 T hf SS (by rw [hN]; rfl) (by rw [n5]; exact hy) hd0 hd1 hc0 hc1 (fun L => hsw2 F _ L n5) A outer s H E
end
end HX
namespace DL
open PySem PySem.Spec PyProof.Rows L2
variable [TabC]
/-! ### readings that are plain functions -/
inductive Res (α : Type) where
  | ok (a : α) | ex (x : XD) | bad
def Res.bind {α β : Type} : Res α → (α → Res β) → Res β
  | .ok a, k => k a
  | .ex x, _ => .ex x
  | .bad, _ => .bad
/-- no error may leave -/
def Res.calm {α : Type} : Res α → Res α
  | .ok a => .ok a
  | _ => .bad
def ofO {α : Type} : Option α → Res α
  | some a => .ok a
  | none => .bad
def ofB : Option D → Res Bool
  | some (.bl b) => .ok b
  | _ => .bad
abbrev FM (α : Type) := Ev → Res α
def Res.wp {α : Type} (r : Res α) (xq : XQ) (n : Nat) (Q : α → Nat → Prop) : Prop := match r with
  | .ok a => Q a n
  | .ex x => xq x n
  | .bad => False
def up {α : Type} (f : FM α) : EM α := fun xq s n Q => (f s).wp xq n Q
theorem wp_bind {α β : Type} {r : Res α} {k : α → Res β} {xq : XQ} {n : Nat} {Q : β → Nat → Prop} (h : (r.bind k).wp xq n Q) : r.wp xq n fun a n' => (k a).wp xq n' Q := by
  cases r <;> exact h
theorem wp_ofO {α : Type} {o : Option α} {xq : XQ} {n : Nat} {Q : α → Nat → Prop} (h : (ofO o).wp xq n Q) : ∃ a, o = some a ∧ Q a n := by
  cases o with
  | none => exact h.elim
  | some a => exact ⟨a, rfl, h⟩
theorem wp_ofB {o : Option D} {xq : XQ} {n : Nat} {Q : Bool → Nat → Prop} (h : (ofB o).wp xq n Q) : ∃ k, o = some (.bl k) ∧ Q k n := by
  unfold ofB at h
  split at h
  · exact ⟨_, rfl, h⟩
  · exact h.elim
theorem wp_mono {α : Type} {r : Res α} {xq : XQ} {n : Nat} {Q Q' : α → Nat → Prop} (hq : ∀ a, Q a n → Q' a n) (h : r.wp xq n Q) : r.wp xq n Q' := by
  cases r with
  | ok a => exact hq a h
  | _ => exact h
theorem wp_if {α : Type} {c : Bool} {a b : Res α} {xq : XQ} {n : Nat} {Q : α → Nat → Prop} (h : (if c = true then a else b).wp xq n Q) : if c = true then a.wp xq n Q else b.wp xq n Q := by
  cases c <;> exact h
theorem wp_dec {α : Type} {p : Prop} [Decidable p] {a : Res α} {xq : XQ} {n : Nat} {Q : α → Nat → Prop} (h : (if p then a else .bad).wp xq n Q) : p ∧ a.wp xq n Q := by
  by_cases z : p
  · rw [if_pos z] at h
    exact ⟨z, h⟩
  · rw [if_neg z] at h
    exact h.elim
theorem mn_up {α : Type} {f : FM α} : Mn (up f) := fun xq s n Q Q' hq h => wp_mono (fun a => hq a n) h
section
variable {X : Cx} {E : XK} {O : List Nat} {R : RK}
theorem lo {e : Expr} {m : EM D} {f : FM D} (h : VX R X E O e m) (le : ∀ xq s n Q, up f xq s n Q → m xq s n Q) : VX R X E O e (up f) := by
  obtain ⟨mn, t, p, q⟩ := h
  exact ⟨mn_up, t, p, fun aS A0 H0 σ H s n xq Q S L hm => q aS A0 H0 σ H s n xq Q S L (le _ _ _ _ hm)⟩
theorem loF {e : Expr} {m : EM D} {f : FM D} (h : VF X E O e m) (le : ∀ xq s n Q, up f xq s n Q → m xq s n Q) : VF X E O e (up f) := by
  obtain ⟨mn, t, p, q⟩ := h
  exact ⟨mn_up, t, p, fun aS A0 H0 σ H s n xq Q S L hm => q aS A0 H0 σ H s n xq Q S L (le _ _ _ _ hm)⟩
theorem loT {e : Expr} {m : EM Bool} {f : FM Bool} (h : VT X E O e m) (le : ∀ xq s n Q, up f xq s n Q → m xq s n Q) : VT X E O e (up f) := by
  obtain ⟨mn, t, p, q⟩ := h
  exact ⟨mn_up, t, p, fun aS A0 H0 σ H s n xq Q S L hm => q aS A0 H0 σ H s n xq Q S L (le _ _ _ _ hm)⟩
theorem loTs {es : List Expr} {m : EM Bool} {f : FM Bool} (h : VTs X E O es m) (le : ∀ xq s n Q, up f xq s n Q → m xq s n Q) : VTs X E O es (up f) := by
  obtain ⟨mn, t, p, q⟩ := h
  exact ⟨mn_up, t, p, fun aS A0 H0 σ H s n xq Q S L hm => q aS A0 H0 σ H s n xq Q S L (le _ _ _ _ hm)⟩
theorem loA {es : List Expr} {m : EM (List D)} {f : FM (List D)} (h : VA R X E O es m) (le : ∀ xq s n Q, up f xq s n Q → m xq s n Q) : VA R X E O es (up f) := by
  obtain ⟨mn, t, p, q⟩ := h
  exact ⟨mn_up, t, p, fun aS A0 H0 σ H s n xq Q S L hm => q aS A0 H0 σ H s n xq Q S L (le _ _ _ _ hm)⟩
end
section
variable {xq : XQ} {s : Ev} {n : Nat} {a b c : FM D} {t u : FM Bool} {l : FM (List D)}
def fVar (i : Nat) : FM D := fun s => match s[i]? with
  | some (some d) => .ok d
  | _ => .bad
theorem le_var (i : Nat) : ∀ xq s n Q, up (fVar i) xq s n Q → eVar i xq s n Q := fun xq s n Q h => by
  unfold up fVar at h
  split at h
  · rename_i d e
    exact ⟨d, e, h⟩
  · exact h.elim
def fC (d : D) : FM D := fun _ => .ok d
theorem le_c {d : D} : ∀ xq s n Q, up (fC d) xq s n Q → eC d xq s n Q := fun _ _ _ _ h => h
def fNil : FM (List D) := fun _ => .ok []
theorem le_nil : ∀ xq s n Q, up fNil xq s n Q → eNil xq s n Q := fun _ _ _ _ h => h
def fCons (a : FM D) (l : FM (List D)) : FM (List D) := fun s => (a s).bind fun d => (l s).bind fun ds => .ok (d :: ds)
theorem le_cons : ∀ xq s n Q, up (fCons a l) xq s n Q → eCons (up a) (up l) xq s n Q := fun xq s n Q h => by
  unfold eCons up
  exact wp_mono (fun d h => wp_bind h) (wp_bind h)
def fTup (l : FM (List D)) : FM D := fun s => (l s).bind fun ds => if ds.length ≤ 1000 then .ok (.tup ds) else .bad
theorem le_tup : ∀ xq s n Q, up (fTup l) xq s n Q → eTup (up l) xq s n Q := fun xq s n Q h => by
  unfold eTup up
  exact wp_mono (fun d h => wp_dec h) (wp_bind h)
def fLst (l : FM (List D)) : FM D := fun s => (l s).bind fun ds => if ds.length ≤ 1000 then .ok (.lst ds) else .bad
theorem le_lst : ∀ xq s n Q, up (fLst l) xq s n Q → eLst (up l) xq s n Q := fun xq s n Q h => by
  unfold eLst up
  exact wp_mono (fun d h => wp_dec h) (wp_bind h)
def fBin (f : D → D → Option D) (a b : FM D) : FM D := fun s => (a s).bind fun x => (b s).bind fun y => ofO (f x y)
theorem le_bin {f : D → D → Option D} : ∀ xq s n Q, up (fBin f a b) xq s n Q → eBin f (up a) (up b) xq s n Q := fun xq s n Q h => by
  unfold eBin up
  exact wp_mono (fun d h => wp_mono (fun _ h => wp_ofO h) (wp_bind h)) (wp_bind h)
def fBinT (f : D → D → Option D) (a b : FM D) : FM Bool := fun s => (a s).bind fun x => (b s).bind fun y => ofB (f x y)
theorem le_binT {f : D → D → Option D} : ∀ xq s n Q, up (fBinT f a b) xq s n Q → eBinT f (up a) (up b) xq s n Q := fun xq s n Q h => by
  unfold eBinT up
  exact wp_mono (fun d h => wp_mono (fun _ h => wp_ofB h) (wp_bind h)) (wp_bind h)
def fBlt (f : List D → Option D) (l : FM (List D)) : FM D := fun s => (l s).bind fun ds => ofO (f ds)
theorem le_blt {f : List D → Option D} : ∀ xq s n Q, up (fBlt f l) xq s n Q → eBlt f (up l) xq s n Q := fun xq s n Q h => by
  unfold eBlt up
  exact wp_mono (fun d h => wp_ofO h) (wp_bind h)
/-- a truth -/
def asB : D → Res Bool
  | .bl b => .ok b
  | _ => .bad
theorem wp_asB {d : D} {xq : XQ} {n : Nat} {Q : Bool → Nat → Prop} (h : (asB d).wp xq n Q) : ∃ c, d = .bl c ∧ Q c n := by
  unfold asB at h
  split at h
  · exact ⟨_, rfl, h⟩
  · exact h.elim
def fAnd (a b : FM D) : FM D := fun s => (a s).bind fun x => (asB x).bind fun c => if c = true then b s else .ok (.bl false)
theorem le_and : ∀ xq s n Q, up (fAnd a b) xq s n Q → eAnd (up a) (up b) xq s n Q := fun xq s n Q h => by
  unfold eAnd up
  exact wp_mono (fun d h => by
    obtain ⟨c, e, q⟩ := wp_asB (wp_bind h)
    exact ⟨c, e, wp_if q⟩) (wp_bind h)
def fOr (a b : FM D) : FM D := fun s => (a s).bind fun x => (asB x).bind fun c => if c = true then .ok (.bl true) else b s
theorem le_or : ∀ xq s n Q, up (fOr a b) xq s n Q → eOr (up a) (up b) xq s n Q := fun xq s n Q h => by
  unfold eOr up
  exact wp_mono (fun d h => by
    obtain ⟨c, e, q⟩ := wp_asB (wp_bind h)
    exact ⟨c, e, wp_if q⟩) (wp_bind h)
def fNot (a : FM D) : FM D := fun s => (a s).bind fun x => (asB x).bind fun c => .ok (.bl (!c))
theorem le_not : ∀ xq s n Q, up (fNot a) xq s n Q → eNot (up a) xq s n Q := fun xq s n Q h => by
  unfold eNot up
  exact wp_mono (fun d h => wp_asB (wp_bind h)) (wp_bind h)
def fIf (t : FM Bool) (a b : FM D) : FM D := fun s => (t s).bind fun c => if c = true then a s else b s
theorem le_if : ∀ xq s n Q, up (fIf t a b) xq s n Q → eIf (up t) (up a) (up b) xq s n Q := fun xq s n Q h => by
  unfold eIf up
  exact wp_mono (fun d h => wp_if h) (wp_bind h)
def fVal (a : FM D) : FM Bool := fun s => (a s).bind asB
theorem le_val : ∀ xq s n Q, up (fVal a) xq s n Q → tVal (up a) xq s n Q := fun xq s n Q h => by
  unfold tVal up
  exact wp_mono (fun d h => wp_asB h) (wp_bind h)
def fAndT (t u : FM Bool) : FM Bool := fun s => (t s).bind fun c => if c = true then u s else .ok false
theorem le_andT : ∀ xq s n Q, up (fAndT t u) xq s n Q → tAndD (up t) (up u) xq s n Q := fun xq s n Q h => by
  unfold tAndD up
  exact wp_mono (fun d h => wp_if h) (wp_bind h)
def fOrT (t u : FM Bool) : FM Bool := fun s => (t s).bind fun c => if c = true then .ok true else u s
theorem le_orT : ∀ xq s n Q, up (fOrT t u) xq s n Q → tOrD (up t) (up u) xq s n Q := fun xq s n Q h => by
  unfold tOrD up
  exact wp_mono (fun d h => wp_if h) (wp_bind h)
def fNotT (t : FM Bool) : FM Bool := fun s => (t s).bind fun c => .ok (!c)
theorem le_notT : ∀ xq s n Q, up (fNotT t) xq s n Q → tNotD (up t) xq s n Q := fun xq s n Q h => by
  unfold tNotD up
  exact wp_bind h
def fYes : FM Bool := fun _ => .ok true
theorem le_yes : ∀ xq s n Q, up fYes xq s n Q → tYesD xq s n Q := fun _ _ _ _ h => h
def fNeg (a : FM D) : FM D := fun s => (a s).bind fun x => match x with
  | .int i => .ok (.int (-i))
  | _ => .bad
theorem le_neg : ∀ xq s n Q, up (fNeg a) xq s n Q → eNeg (up a) xq s n Q := fun xq s n Q h => by
  unfold eNeg up
  exact wp_mono (fun d h => by
    cases d <;> first | exact h.elim | exact ⟨_, rfl, h⟩) (wp_bind h)
def fChain (f g : D → D → Option D) (a b c : FM D) : FM D := fun s => (a s).bind fun x => (b s).bind fun y => (ofB (f x y)).bind fun k => if k = true then (c s).bind fun z => ofO (g y z) else .ok (.bl false)
theorem le_chain {f g : D → D → Option D} : ∀ xq s n Q, up (fChain f g a b c) xq s n Q → eChain f g (up a) (up b) (up c) xq s n Q := fun xq s n Q h => by
  unfold eChain up
  exact wp_mono (fun x h => wp_mono (fun y h => by
    obtain ⟨k, e, q⟩ := wp_ofB (wp_bind h)
    refine ⟨k, e, ?_⟩
    cases k with
    | false => exact q
    | true =>
        rw [if_pos rfl] at q ⊢
        exact wp_mono (fun _ h => wp_ofO h) (wp_bind q)) (wp_bind h)) (wp_bind h)
def fChainT (f g : D → D → Option D) (a b c : FM D) : FM Bool := fun s => (a s).bind fun x => (b s).bind fun y => (ofB (f x y)).bind fun k => if k = true then (c s).bind fun z => ofB (g y z) else .ok false
theorem le_chainT {f g : D → D → Option D} : ∀ xq s n Q, up (fChainT f g a b c) xq s n Q → eChainT f g (up a) (up b) (up c) xq s n Q := fun xq s n Q h => by
  unfold eChainT up
  exact wp_mono (fun x h => wp_mono (fun y h => by
    obtain ⟨k, e, q⟩ := wp_ofB (wp_bind h)
    refine ⟨k, e, ?_⟩
    cases k with
    | false => exact q
    | true =>
        rw [if_pos rfl] at q ⊢
        exact wp_mono (fun _ h => wp_ofB h) (wp_bind q)) (wp_bind h)) (wp_bind h)
abbrev FO := Ev → Res (Option Int)
def fNone : FM (Option Int) := fun _ => .ok none
def fSome (a : FM D) : FM (Option Int) := fun s => (a s).bind fun x => match x with
  | .int i => .ok (some i)
  | _ => .bad
theorem wp_some {Q : Option Int → Nat → Prop} (h : up (fSome a) xq s n Q) : oSome (up a) xq s n Q := by
  unfold oSome up
  exact wp_mono (fun d h => by
    cases d <;> first | exact h.elim | exact ⟨_, rfl, h⟩) (wp_bind h)
def fSl (a : FM D) (lo hi : FM (Option Int)) : FM D := fun s => (a s).bind fun d => (lo s).bind fun i => (hi s).bind fun j => ofO (dSl d i j)
def fFld (C g : Str) (a : FM D) : FM D := fun s => (a s).bind fun d => match d with
  | .obj C' fs => if C' = C then ofO (fs.lookup g) else .bad
  | _ => .bad
theorem le_fld {C g : Str} : ∀ xq s n Q, up (fFld C g a) xq s n Q → eFld C g (up a) xq s n Q := fun xq s n Q h => by
  unfold eFld up
  exact wp_mono (fun d h => by
    cases d with
    | obj C' fs =>
      obtain ⟨e, h⟩ := wp_dec h
      obtain ⟨v, e2, q⟩ := wp_ofO h
      exact ⟨fs, v, by rw [e], e2, q⟩
    | _ => exact h.elim) (wp_bind h)
def fDget (o k x : FM D) : FM D := fun s => (o s).bind fun d => match d with
  | .dic kvs => (k s).bind fun kd => (x s).bind fun xd => (ofO (keyD kd)).bind fun kk => .ok ((lookK kvs kk).getD xd)
  | _ => .bad
theorem le_dget : ∀ xq s n Q, up (fDget a b c) xq s n Q → eDget (up a) (up b) (up c) xq s n Q := fun xq s n Q h => by
  unfold eDget up
  exact wp_mono (fun d h => by
    cases d with
    | dic kvs => exact ⟨kvs, rfl, wp_mono (fun kd h => wp_mono (fun xd h => wp_ofO (wp_bind h)) (wp_bind h)) (wp_bind h)⟩
    | _ => exact h.elim) (wp_bind h)
end
end DL
namespace DL
open PySem PySem.Spec PyProof.Rows L2
variable [TabC]
/-! ### slices, calls -/
section
variable {X : Cx} {E : XK} {O : List Nat} {a b c o : FM D} {l : FM (List D)}
theorem loO {e : Option Expr} {m : EM (Option Int)} {f : FM (Option Int)} (h : VO X E O e m) (le : ∀ xq s n Q, up f xq s n Q → m xq s n Q) : VO X E O e (up f) := by
  obtain ⟨mn, t, p, q⟩ := h
  exact ⟨mn_up, t, p, fun aS A0 H0 σ H s n xq Q S L hm => q aS A0 H0 σ H s n xq Q S L (le _ _ _ _ hm)⟩
theorem le_none : ∀ xq s n Q, up fNone xq s n Q → oNone xq s n Q := fun _ _ _ _ h => h
theorem le_some : ∀ xq s n Q, up (fSome a) xq s n Q → oSome (up a) xq s n Q := fun _ _ _ _ h => wp_some h
theorem le_sl {i j : FM (Option Int)} : ∀ xq s n Q, up (fSl a i j) xq s n Q → eSl (up a) (up i) (up j) xq s n Q := fun xq s n Q h => by
  unfold eSl up
  exact wp_mono (fun d h => wp_mono (fun i h => wp_mono (fun j h => wp_ofO h) (wp_bind h)) (wp_bind h)) (wp_bind h)
abbrev FFn := List D → Res D
def FSp.of (f : FFn) : FSp := ⟨fun ds n Q xq => (f ds).wp xq n Q, fun _ _ _ _ _ hq h => wp_mono (fun a => hq a _) h⟩
def fCall (len : Nat) (f : FFn) (dds : List D) (l : FM (List D)) : FM D := fun s => (l s).bind fun ds => if (ds ++ dds).length = len then f (ds ++ dds) else .bad
theorem le_call {len : Nat} {f : FFn} {dds : List D} : ∀ xq s n Q, up (fCall len f dds l) xq s n Q → eCall len (FSp.of f) dds (up l) xq s n Q := fun xq s n Q h => by
  unfold eCall up
  exact wp_mono (fun d h => wp_dec h) (wp_bind h)
def fMeth (C mn : Str) (len : Nat) (f : FFn) (dds : List D) (o : FM D) (l : FM (List D)) : FM D := fun s => (o s).bind fun d => match d with
  | .obj C' fs => if C' = C ∧ fs.lookup mn = none then (l s).bind fun ds => if (d :: (ds ++ dds)).length = len then f (d :: (ds ++ dds)) else .bad else .bad
  | _ => .bad
theorem le_meth {C mn : Str} {len : Nat} {f : FFn} {dds : List D} : ∀ xq s n Q, up (fMeth C mn len f dds o l) xq s n Q → eMeth C mn len (FSp.of f) dds (up o) (up l) xq s n Q := fun xq s n Q h => by
  unfold eMeth up
  refine wp_mono (fun d h => ?_) (wp_bind h)
  cases d with
  | obj C' fs =>
    obtain ⟨⟨e1, e2⟩, h⟩ := wp_dec h
    exact ⟨fs, by rw [e1], e2, wp_mono (fun ds h => wp_dec h) (wp_bind h)⟩
  | _ => exact h.elim
def isObj : D → Bool
  | .obj _ _ => true
  | _ => false
def fMake (len : Nat) (f : FFn) (dds : List D) (l : FM (List D)) : FM D := fun s => (l s).bind fun ds => if (ds ++ dds).length + 1 = len then (f (ds ++ dds)).bind fun d => if isObj d = true then .ok d else .bad else .bad
theorem le_make {len : Nat} {f : FFn} {dds : List D} : ∀ xq s n Q, up (fMake len f dds l) xq s n Q → eMake len (FSp.of f) dds (up l) xq s n Q := fun xq s n Q h => by
  unfold eMake up
  refine wp_mono (fun ds h => ?_) (wp_bind h)
  obtain ⟨e, h⟩ := wp_dec h
  refine ⟨e, ?_⟩
  show (f (ds ++ dds)).wp xq n fun d n2 => (∃ C fs, d = D.obj C fs) ∧ Q d n2
  refine wp_mono (fun d h => ?_) (wp_bind h)
  obtain ⟨z, h⟩ := wp_dec h
  cases d with
  | obj C fs => exact ⟨⟨C, fs, rfl⟩, h⟩
  | _ => cases z
end
/-! ### targets, what is walked -/
abbrev FG := D → Ev → Option Ev
abbrev FGs := List D → Ev → Option Ev
def upG (g : FG) : DG := fun d s Q => ∃ s', g d s = some s' ∧ Q s'
def upGs (g : FGs) : DGs := fun d s Q => ∃ s', g d s = some s' ∧ Q s'
def fgNm (i : Nat) : FG := fun d s => some (s.set i (some d))
def fgTp (g : FGs) : FG := fun d s => match d with
  | .tup ds => g ds s
  | _ => none
def fgsNil : FGs := fun ds s => match ds with
  | [] => some s
  | _ => none
def fgsCons (g : FG) (r : FGs) : FGs := fun ds s => match ds with
  | d :: dr => (g d s).bind (r dr)
  | [] => none
theorem lg_nm {i : Nat} : ∀ d s Q, upG (fgNm i) d s Q → gNm i d s Q := fun d s Q ⟨s', e, q⟩ => by cases e; exact q
theorem lg_tp {g : FGs} {g' : DGs} (h : ∀ d s Q, upGs g d s Q → g' d s Q) : ∀ d s Q, upG (fgTp g) d s Q → gTp g' d s Q := fun d s Q ⟨s', e, q⟩ => by
  cases d with
  | tup ds => exact ⟨ds, rfl, h _ _ _ ⟨s', e, q⟩⟩
  | _ => cases e
theorem lgs_nil : ∀ d s Q, upGs fgsNil d s Q → gsNil d s Q := fun d s Q ⟨s', e, q⟩ => by
  cases d with
  | nil => cases e; exact ⟨rfl, q⟩
  | cons d ds => cases e
theorem lgs_cons {g : FG} {g' : DG} {r : FGs} {r' : DGs} (h : ∀ d s Q, upG g d s Q → g' d s Q) (h2 : ∀ d s Q, upGs r d s Q → r' d s Q) : ∀ d s Q, upGs (fgsCons g r) d s Q → gsCons g' r' d s Q := fun d s Q ⟨s', e, q⟩ => by
  cases d with
  | nil => cases e
  | cons d ds =>
    obtain ⟨s1, e1, e2⟩ := Option.bind_eq_some_iff.mp e
    exact ⟨d, ds, rfl, h _ _ _ ⟨s1, e1, h2 _ _ _ ⟨s', e2, q⟩⟩⟩
section
variable {X : Cx} {E : XK} {O vs : List Nat} {a b : FM D} {l : FM (List D)}
theorem loG {tg : Expr} {g : DG} {f : FG} (h : VG X O vs tg g) (le : ∀ d s Q, upG f d s Q → g d s Q) : VG X O vs tg (upG f) := by
  obtain ⟨mn, gt, p, q⟩ := h
  exact ⟨fun d s Q Q' hq ⟨s', e, z⟩ => ⟨s', e, hq _ z⟩, gt, p, fun aS A0 H0 σ H s n d v Q QH S r hm => q aS A0 H0 σ H s n d v Q QH S r (le _ _ _ hm)⟩
theorem loI {OB hid : List Nat} {tg iter : Expr} {m : EM (List D)} {f : FM (List D)} (h : VI X E O OB hid tg iter m) (le : ∀ xq s n Q, up f xq s n Q → m xq s n Q) : VI X E O OB hid tg iter (up f) := by
  obtain ⟨mn, t, p, q⟩ := h
  exact ⟨mn_up, t, p, fun aS A0 H0 σ H s n xq Q S L hm => q aS A0 H0 σ H s n xq Q S L (le _ _ _ _ hm)⟩
theorem loIs {tg iter : Expr} {m : EM (List D)} {f : FM (List D)} (h : VIs X E O tg iter m) (le : ∀ xq s n Q, up f xq s n Q → m xq s n Q) : VIs X E O tg iter (up f) := by
  obtain ⟨mn, t, p, q⟩ := h
  exact ⟨mn_up, t, p, fun aS A0 H0 σ H s n xq Q S L hm => q aS A0 H0 σ H s n xq Q S L (le _ _ _ _ hm)⟩
def fIter (a : FM D) : FM (List D) := fun s => (a s).bind fun d => ofO (dIter d)
theorem le_iter : ∀ xq s n Q, up (fIter a) xq s n Q → eIter (up a) xq s n Q := fun xq s n Q h => by
  unfold eIter up
  exact wp_mono (fun d h => wp_ofO h) (wp_bind h)
def fRange1 (a : FM D) : FM (List D) := fun s => (a s).bind fun d => match d with
  | .int j => if j ≤ LIM ∧ -(2 ^ 62) ≤ j then .ok ((List.range j.toNat).map fun i => .int (i : Nat)) else .bad
  | _ => .bad
theorem le_range1 : ∀ xq s n Q, up (fRange1 a) xq s n Q → eRange1 (up a) xq s n Q := fun xq s n Q h => by
  unfold eRange1 up
  refine wp_mono (fun d h => ?_) (wp_bind h)
  cases d with
  | int j =>
    obtain ⟨e, h⟩ := wp_dec h
    exact ⟨j, rfl, e.1, e.2, h⟩
  | _ => exact h.elim
def fRange2 (a b : FM D) : FM (List D) := fun s => (a s).bind fun x => (b s).bind fun y => match x, y with
  | .int i, .int j => if -(2 ^ 62) ≤ i ∧ i < 2 ^ 62 ∧ -(2 ^ 62) ≤ j ∧ j < 2 ^ 62 then .ok ((List.range (j - i).toNat).map fun k => .int (i + (k : Nat))) else .bad
  | _, _ => .bad
theorem le_range2 : ∀ xq s n Q, up (fRange2 a b) xq s n Q → eRange2 (up a) (up b) xq s n Q := fun xq s n Q h => by
  unfold eRange2 up
  refine wp_mono (fun x h => wp_mono (fun y h => ?_) (wp_bind h)) (wp_bind h)
  cases x with
  | int i =>
    cases y with
    | int j =>
      obtain ⟨e, h⟩ := wp_dec h
      exact ⟨i, j, rfl, rfl, e, h⟩
    | _ => exact h.elim
  | _ => exact h.elim
def fEnum (a : FM D) : FM (List D) := fun s => (a s).bind fun d => (ofO (dSeq d)).bind fun ds => .ok (pairsD 0 ds)
theorem le_enum : ∀ xq s n Q, up (fEnum a) xq s n Q → eEnum (up a) xq s n Q := fun xq s n Q h => by
  unfold eEnum up
  exact wp_mono (fun d h => wp_ofO (wp_bind h)) (wp_bind h)
def fZip (a b : FM D) : FM (List D) := fun s => (a s).bind fun x => (b s).bind fun y => ofO (dZip x y)
theorem le_zip : ∀ xq s n Q, up (fZip a b) xq s n Q → eZip (up a) (up b) xq s n Q := fun xq s n Q h => by
  unfold eZip up
  exact wp_mono (fun d h => wp_mono (fun _ h => wp_ofO h) (wp_bind h)) (wp_bind h)
def fOwnL (i : Nat) : FM (List D) := fun s => match s[i]? with
  | some (some (.lst ds)) => .ok ds
  | _ => .bad
theorem le_own {i : Nat} : ∀ xq s n Q, up (fOwnL i) xq s n Q → eOwn i xq s n Q := fun xq s n Q h => by
  unfold up fOwnL at h
  split at h
  · rename_i ds e
    exact ⟨ds, e, h⟩
  · exact h.elim
end
/-! ### comprehensions -/
def fLcL (g : FG) (t : FM Bool) (e : FM D) (s0 : Ev) : List D → Res (List D)
  | [] => .ok []
  | d :: ds => (ofO (g d s0)).bind fun s1 => (t s1).calm.bind fun c => if c = true then (e s1).calm.bind fun x => (fLcL g t e s0 ds).bind fun xs => .ok (x :: xs) else fLcL g t e s0 ds
theorem wp_calm {α : Type} {r : Res α} {xq xq' : XQ} {n : Nat} {Q : α → Nat → Prop} (h : r.calm.wp xq n Q) : r.wp xq' n Q := by
  cases r with
  | ok a => exact h
  | ex x => exact False.elim h
  | bad => exact False.elim h
theorem lc_le {g : FG} {t : FM Bool} {e : FM D} {xq : XQ} {s0 : Ev} {n : Nat} : ∀ (ds acc : List D) (Q : List D → Nat → Prop), (fLcL g t e s0 ds).wp xq n (fun xs n' => Q (acc ++ xs) n') → sLcL (upG g) (up t) (up e) (fun _ _ => False) s0 ds n acc Q
  | [], acc, Q, h => by
    have h : Q (acc ++ []) n := h
    rw [List.append_nil] at h
    exact h
  | d :: ds, acc, Q, h => by
    obtain ⟨s1, e1, h⟩ := wp_ofO (wp_bind h)
    refine ⟨s1, e1, wp_calm (wp_mono (fun c h => ?_) (wp_bind h))⟩
    cases c with
    | false => exact lc_le ds acc Q h
    | true =>
      rw [if_pos rfl] at h ⊢
      refine wp_calm (wp_mono (fun x h => ?_) (wp_bind h))
      refine lc_le ds (acc ++ [x]) Q (wp_mono (fun xs h => ?_) (wp_bind h))
      rw [List.append_assoc]
      exact h
def fLc (i : FM (List D)) (hs : List Nat) (g : FG) (t : FM Bool) (e : FM D) : FM D := fun s => (i s).bind fun ds => if ds.length ≤ LIM then (fLcL g t e (hideL s hs) ds).calm.bind fun xs => .ok (.lst xs) else .bad
theorem le_lc {i : FM (List D)} {hs : List Nat} {g : FG} {t : FM Bool} {e : FM D} : ∀ xq s n Q, up (fLc i hs g t e) xq s n Q → eLc (up i) hs (upG g) (up t) (up e) xq s n Q := fun xq s n Q h => by
  unfold eLc up
  refine wp_mono (fun ds h => ?_) (wp_bind h)
  obtain ⟨e, h⟩ := wp_dec h
  exact ⟨e, lc_le (xq := xq) ds [] _ (wp_calm (wp_bind h))⟩
def fDcL (g : FG) (t : FM Bool) (k e : FM D) (s0 : Ev) : List D → List (Key × D) → Res (List (Key × D))
  | [], acc => .ok acc
  | d :: ds, acc => (ofO (g d s0)).bind fun s1 => (t s1).calm.bind fun c => if c = true then (k s1).calm.bind fun kd => (e s1).calm.bind fun x => (ofO (keyD kd)).bind fun kk => fDcL g t k e s0 ds (putD acc kk x) else fDcL g t k e s0 ds acc
theorem dc_le {g : FG} {t : FM Bool} {k e : FM D} {xq : XQ} {s0 : Ev} {n : Nat} : ∀ (ds : List D) (acc : List (Key × D)) (Q : List (Key × D) → Nat → Prop), (fDcL g t k e s0 ds acc).wp xq n Q → sDcL (upG g) (up t) (up k) (up e) (fun _ _ => False) s0 ds n acc Q
  | [], acc, Q, h => h
  | d :: ds, acc, Q, h => by
    obtain ⟨s1, e1, h⟩ := wp_ofO (wp_bind h)
    refine ⟨s1, e1, wp_calm (wp_mono (fun c h => ?_) (wp_bind h))⟩
    cases c with
    | false => exact dc_le ds acc Q h
    | true =>
      rw [if_pos rfl] at h ⊢
      refine wp_calm (wp_mono (fun kd h => ?_) (wp_bind h))
      refine wp_calm (wp_mono (fun x h => ?_) (wp_bind h))
      obtain ⟨kk, e2, h⟩ := wp_ofO (wp_bind h)
      exact ⟨kk, e2, dc_le ds _ Q h⟩
def fDc (i : FM (List D)) (hs : List Nat) (g : FG) (t : FM Bool) (k e : FM D) : FM D := fun s => (i s).bind fun ds => if ds.length ≤ LIM then (fDcL g t k e (hideL s hs) ds []).calm.bind fun xs => .ok (.dic xs) else .bad
theorem le_dc {i : FM (List D)} {hs : List Nat} {g : FG} {t : FM Bool} {k e : FM D} : ∀ xq s n Q, up (fDc i hs g t k e) xq s n Q → eDc (up i) hs (upG g) (up t) (up k) (up e) xq s n Q := fun xq s n Q h => by
  unfold eDc up
  refine wp_mono (fun ds h => ?_) (wp_bind h)
  obtain ⟨e, h⟩ := wp_dec h
  exact ⟨e, dc_le (xq := xq) ds [] _ (wp_calm (wp_bind h))⟩
/-- a dict by a path -/
def asDic : Option D → Res (List (Key × D))
  | some (.dic kvs) => .ok kvs
  | _ => .bad
theorem wp_asDic {o : Option D} {xq : XQ} {n : Nat} {Q : List (Key × D) → Nat → Prop} (h : (asDic o).wp xq n Q) : ∃ kvs, o = some (.dic kvs) ∧ Q kvs n := by
  unfold asDic at h
  split at h
  · exact ⟨_, rfl, h⟩
  · exact h.elim
def fLcD (p : Ev → Option D) (f : List (Key × D) → List D) (hs : List Nat) (g : FG) (t : FM Bool) (e : FM D) : FM D := fun s => (asDic (p s)).bind fun kvs => if (f kvs).length ≤ LIM then (fLcL g t e (hideL s hs) (f kvs)).calm.bind fun xs => .ok (.lst xs) else .bad
theorem le_lcD {p : Ev → Option D} {f : List (Key × D) → List D} {hs : List Nat} {g : FG} {t : FM Bool} {e : FM D} : ∀ xq s n Q, up (fLcD p f hs g t e) xq s n Q → eLcD p f hs (upG g) (up t) (up e) xq s n Q := fun xq s n Q h => by
  obtain ⟨kvs, e1, h⟩ := wp_asDic (wp_bind h)
  obtain ⟨e2, h⟩ := wp_dec h
  exact ⟨kvs, e1, e2, lc_le (xq := xq) _ [] _ (wp_calm (wp_bind h))⟩
def fDcD (p : Ev → Option D) (f : List (Key × D) → List D) (hs : List Nat) (g : FG) (t : FM Bool) (k e : FM D) : FM D := fun s => (asDic (p s)).bind fun kvs => if (f kvs).length ≤ LIM then (fDcL g t k e (hideL s hs) (f kvs) []).calm.bind fun xs => .ok (.dic xs) else .bad
theorem le_dcD {p : Ev → Option D} {f : List (Key × D) → List D} {hs : List Nat} {g : FG} {t : FM Bool} {k e : FM D} : ∀ xq s n Q, up (fDcD p f hs g t k e) xq s n Q → eDcD p f hs (upG g) (up t) (up k) (up e) xq s n Q := fun xq s n Q h => by
  obtain ⟨kvs, e1, h⟩ := wp_asDic (wp_bind h)
  obtain ⟨e2, h⟩ := wp_dec h
  exact ⟨kvs, e1, e2, dc_le (xq := xq) _ [] _ (wp_calm (wp_bind h))⟩
end DL
namespace DL
open PySem PySem.Spec PyProof.Rows L2
variable [TabC]
/-! ### statements that are plain functions -/
inductive SO where
  | nx (s : Ev) | rt (d : D) | bk (s : Ev) | ct (s : Ev) | ex (x : XD) | bad
abbrev FS := Ev → SO
def SO.wp (o : SO) (xq : XQ) (de : DE) (n : Nat) : Prop := match o with
  | .nx s => de.nx s n
  | .rt d => de.rt d n
  | .bk s => de.bk s n
  | .ct s => de.ct s n
  | .ex x => xq x n
  | .bad => False
def upS (f : FS) : SM := fun xq de s n => (f s).wp xq de n
/-- an expression, then a statement's end -/
def Res.so {α : Type} (r : Res α) (k : α → SO) : SO := match r with
  | .ok a => k a
  | .ex x => .ex x
  | .bad => .bad
theorem wp_so {α : Type} {r : Res α} {k : α → SO} {xq : XQ} {de : DE} {n : Nat} (h : (r.so k).wp xq de n) : r.wp xq n fun a n' => (k a).wp xq de n' := by
  cases r <;> exact h
theorem so_dec {p : Prop} [Decidable p] {o : SO} {xq : XQ} {de : DE} {n : Nat} (h : (if p then o else .bad).wp xq de n) : p ∧ o.wp xq de n := by
  by_cases z : p
  · rw [if_pos z] at h
    exact ⟨z, h⟩
  · rw [if_neg z] at h
    exact h.elim
section
variable {X : Cx} {E : XK} {O O' OL : List Nat}
theorem loS {st : Stmt} {m : SM} {f : FS} (h : VS X E O O' OL st m) (le : ∀ xq de s n, upS f xq de s n → m xq de s n) : VS X E O O' OL st (upS f) := by
  obtain ⟨t, p, q⟩ := h
  exact ⟨t, p, fun aS A0 H0 σ H s n xq de De S L k hm => q aS A0 H0 σ H s n xq de De S L k (le _ _ _ _ hm)⟩
theorem loSs {st : List Stmt} {m : SM} {f : FS} (h : VSs X E O O' OL st m) (le : ∀ xq de s n, upS f xq de s n → m xq de s n) : VSs X E O O' OL st (upS f) := by
  obtain ⟨t, p, q⟩ := h
  exact ⟨t, p, fun aS A0 H0 σ H s n xq de De S L k hm => q aS A0 H0 σ H s n xq de De S L k (le _ _ _ _ hm)⟩
theorem loSF {st : List Stmt} {m : SM} {f : FS} (h : VSsF X E O st m) (le : ∀ xq de s n, upS f xq de s n → m xq de s n) : VSsF X E O st (upS f) := by
  obtain ⟨t, p, q⟩ := h
  exact ⟨t, p, fun aS A0 H0 σ H s n xq de De S L k hm => q aS A0 H0 σ H s n xq de De S L k (le _ _ _ _ hm)⟩
end
section
variable {a b : FM D} {t : FM Bool} {l : FM (List D)} {f g : FS}
def fNilS : FS := fun s => .nx s
theorem ls_nil : ∀ xq de s n, upS fNilS xq de s n → sNil xq de s n := fun _ _ _ _ h => h
theorem ls_pass : ∀ xq de s n, upS fNilS xq de s n → sPass xq de s n := fun _ _ _ _ h => h
def fNever : FS := fun _ => .bad
theorem ls_never : ∀ xq de s n, upS fNever xq de s n → sNever xq de s n := fun _ _ _ _ h => h
def fSeq (f g : FS) : FS := fun s => match f s with
  | .nx s' => g s'
  | o => o
theorem ls_seq : ∀ xq de s n, upS (fSeq f g) xq de s n → sSeq (upS f) (upS g) xq de s n := fun xq de s n h => by
  unfold upS fSeq at h
  unfold sSeq upS
  cases e : f s <;> rw [e] at h <;> exact h
def fSeqF (f g : FS) : FS := fun s => match f s with
  | .nx s' => g s'
  | .ex x => .ex x
  | _ => .bad
theorem ls_seqF : ∀ xq de s n, upS (fSeqF f g) xq de s n → sSeqF (upS f) (upS g) xq de s n := fun xq de s n h => by
  unfold upS fSeqF at h
  unfold sSeqF upS
  cases e : f s <;> rw [e] at h <;> first | exact h | exact h.elim
def fRet (a : FM D) : FS := fun s => (a s).so .rt
theorem ls_ret : ∀ xq de s n, upS (fRet a) xq de s n → sRet (up a) xq de s n := fun xq de s n h => by
  unfold sRet up
  exact wp_so h
def fRetN : FS := fun _ => .rt .non
theorem ls_retN : ∀ xq de s n, upS fRetN xq de s n → sRetN xq de s n := fun _ _ _ _ h => h
def fSet (i : Nat) (a : FM D) : FS := fun s => (a s).so fun d => .nx (s.set i (some d))
theorem ls_set {i : Nat} : ∀ xq de s n, upS (fSet i a) xq de s n → sSet i (up a) xq de s n := fun xq de s n h => by
  unfold sSet up
  exact wp_so h
def fSetF (i : Nat) (a : FM D) : FS := fun s => if i < s.length then (a s).so fun d => .nx (s.set i (some d)) else .bad
theorem ls_setF {i : Nat} : ∀ xq de s n, upS (fSetF i a) xq de s n → sSetF i (up a) xq de s n := fun xq de s n h => by
  obtain ⟨e, h⟩ := so_dec h
  exact ⟨e, wp_so h⟩
def fIfS (t : FM Bool) (f g : FS) : FS := fun s => (t s).so fun c => if c = true then f s else g s
theorem ls_if : ∀ xq de s n, upS (fIfS t f g) xq de s n → sIf (up t) (upS f) (upS g) xq de s n := fun xq de s n h => by
  unfold sIf up
  refine wp_mono (fun c h => ?_) (wp_so h)
  cases c <;> exact h
def fDrop (a : FM D) : FS := fun s => (a s).so fun _ => .nx s
theorem ls_drop : ∀ xq de s n, upS (fDrop a) xq de s n → sDrop (up a) xq de s n := fun xq de s n h => by
  unfold sDrop up
  exact wp_so h
/-- a list in a slot -/
def lstAt (s : Ev) (i : Nat) (k : List D → SO) : SO := match s[i]? with
  | some (some (.lst ds)) => k ds
  | _ => .bad
theorem wp_lstAt {s : Ev} {i : Nat} {k : List D → SO} {xq : XQ} {de : DE} {n : Nat} (h : (lstAt s i k).wp xq de n) : ∃ ds, s[i]? = some (some (.lst ds)) ∧ (k ds).wp xq de n := by
  unfold lstAt at h
  split at h
  · rename_i ds e
    exact ⟨ds, e, h⟩
  · exact h.elim
def dicAt (s : Ev) (i : Nat) (k : List (Key × D) → SO) : SO := match s[i]? with
  | some (some (.dic ds)) => k ds
  | _ => .bad
theorem wp_dicAt {s : Ev} {i : Nat} {k : List (Key × D) → SO} {xq : XQ} {de : DE} {n : Nat} (h : (dicAt s i k).wp xq de n) : ∃ ds, s[i]? = some (some (.dic ds)) ∧ (k ds).wp xq de n := by
  unfold dicAt at h
  split at h
  · rename_i ds e
    exact ⟨ds, e, h⟩
  · exact h.elim
def fApp (i : Nat) (a : FM D) : FS := fun s => lstAt s i fun ds => (a s).so fun d => if ds.length < LIM then .nx (s.set i (some (.lst (ds ++ [d])))) else .bad
theorem ls_app {i : Nat} : ∀ xq de s n, upS (fApp i a) xq de s n → sApp i (up a) xq de s n := fun xq de s n h => by
  obtain ⟨ds, e, h⟩ := wp_lstAt h
  exact ⟨ds, e, wp_mono (fun d h => so_dec h) (wp_so h)⟩
def asL : D → Res (List D)
  | .lst xs => .ok xs
  | _ => .bad
theorem wp_asL {d : D} {xq : XQ} {n : Nat} {Q : List D → Nat → Prop} (h : (asL d).wp xq n Q) : ∃ xs, d = .lst xs ∧ Q xs n := by
  unfold asL at h
  split at h
  · exact ⟨_, rfl, h⟩
  · exact h.elim
def fExt (i : Nat) (a : FM D) : FS := fun s => lstAt s i fun ds => (a s).so fun d => (asL d).so fun es => if ds.length + es.length ≤ LIM then .nx (s.set i (some (.lst (ds ++ es)))) else .bad
theorem ls_ext {i : Nat} : ∀ xq de s n, upS (fExt i a) xq de s n → sExt i (up a) xq de s n := fun xq de s n h => by
  obtain ⟨ds, e, h⟩ := wp_lstAt h
  refine ⟨ds, e, wp_mono (fun d h => ?_) (wp_so h)⟩
  obtain ⟨es, e2, h⟩ := wp_asL (wp_so h)
  exact ⟨es, e2, so_dec h⟩
def asIns : List D → Option (Nat × D)
  | [.int k, d] => if 0 ≤ k then some (k.toNat, d) else none
  | _ => none
theorem asIns_ok {l : List D} {k : Nat} {d : D} (h : asIns l = some (k, d)) : l = [.int k, d] := by
  unfold asIns at h
  split at h
  · split at h
    · cases h
      rename_i k d hk
      rw [Int.toNat_of_nonneg hk]
    · cases h
  · cases h
def fIns (i : Nat) (l : FM (List D)) : FS := fun s => lstAt s i fun ds => (l s).so fun x => (ofO (asIns x)).so fun p => if ds.length < LIM ∧ p.1 ≤ LIM then .nx (s.set i (some (.lst (ds.take p.1 ++ [p.2] ++ ds.drop p.1)))) else .bad
theorem ls_ins {i : Nat} : ∀ xq de s n, upS (fIns i l) xq de s n → sIns i (up l) xq de s n := fun xq de s n h => by
  obtain ⟨ds, e, h⟩ := wp_lstAt h
  refine ⟨ds, e, wp_mono (fun x h => ?_) (wp_so h)⟩
  obtain ⟨⟨k, d⟩, e2, h⟩ := wp_ofO (wp_so h)
  obtain ⟨e3, h⟩ := so_dec h
  exact ⟨k, d, asIns_ok e2, e3.1, e3.2, h⟩
def fDput (i : Nat) (k a : FM D) : FS := fun s => (a s).so fun d => (k s).so fun kd => (ofO (keyD kd)).so fun kk => dicAt s i fun kvs => if kvs.length < LIM then .nx (s.set i (some (.dic (putD kvs kk d)))) else .bad
theorem ls_dput {i : Nat} : ∀ xq de s n, upS (fDput i b a) xq de s n → sDput i (up b) (up a) xq de s n := fun xq de s n h => by
  unfold sDput up
  refine wp_mono (fun d h => wp_mono (fun kd h => ?_) (wp_so h)) (wp_so h)
  obtain ⟨kk, e, h⟩ := wp_ofO (wp_so h)
  obtain ⟨kvs, e2, h⟩ := wp_dicAt h
  obtain ⟨e3, h⟩ := so_dec h
  exact ⟨kk, kvs, e, e2, e3, h⟩
def fFldS (i : Nat) (C g : Str) (a : FM D) : FS := fun s => (a s).so fun d => match s[i]? with
  | some (some (.obj C' fs)) => if C' = C ∧ fs.length < 1000 then .nx (s.set i (some (.obj C (putFD g d fs)))) else .bad
  | _ => .bad
theorem ls_fld {i : Nat} {C g : Str} : ∀ xq de s n, upS (fFldS i C g a) xq de s n → sFldD i C g (up a) xq de s n := fun xq de s n h => by
  unfold sFldD up
  refine wp_mono (fun d h => ?_) (wp_so h)
  split at h
  · rename_i C' fs e
    obtain ⟨e2, h⟩ := so_dec h
    exact ⟨fs, by rw [e, e2.1], e2.2, h⟩
  · exact h.elim
def fAsg (a : FM D) (g : FG) : FS := fun s => (a s).so fun d => (ofO (g d s)).so .nx
theorem ls_asg {g : FG} : ∀ xq de s n, upS (fAsg a g) xq de s n → sAsg (up a) (upG g) xq de s n := fun xq de s n h => by
  unfold sAsg up
  exact wp_mono (fun d h => wp_ofO (wp_so h)) (wp_so h)
def fPar (i j : Nat) (a b : FM D) : FS := fun s => (a s).so fun d => (b s).so fun d' => .nx ((s.set i (some d)).set j (some d'))
theorem ls_par {i j : Nat} : ∀ xq de s n, upS (fPar i j a b) xq de s n → sPar i j (up a) (up b) xq de s n := fun xq de s n h => by
  unfold sPar up
  exact wp_mono (fun d h => wp_so h) (wp_so h)
def fParEF (i j : Nat) (a b : FM D) : FS := fun s => if j < s.length then (a s).so fun d => (b s).so fun d' => .nx ((s.set i (some d)).set j (some d')) else .bad
theorem ls_parEF {i j : Nat} : ∀ xq de s n, upS (fParEF i j a b) xq de s n → sParEF i j (up a) (up b) xq de s n := fun xq de s n h => by
  obtain ⟨e, h⟩ := so_dec h
  refine ⟨e, ?_⟩
  unfold sPar up
  exact wp_mono (fun d h => wp_so h) (wp_so h)
def fParFF (i j : Nat) (a b : FM D) : FS := fun s => if i < s.length ∧ j < s.length then (a s).calm.so fun d => (b s).calm.so fun d' => .nx ((s.set i (some d)).set j (some d')) else .bad
theorem ls_parFF {i j : Nat} : ∀ xq de s n, upS (fParFF i j a b) xq de s n → sParFF i j (up a) (up b) xq de s n := fun xq de s n h => by
  obtain ⟨e, h⟩ := so_dec h
  refine ⟨e.1, e.2, ?_⟩
  unfold sPar up
  exact wp_calm (wp_mono (fun d h => wp_calm (wp_so h)) (wp_so h))
def fRaise (C : Str) (fl : List Str) (l : FM (List D)) : FS := fun s => (l s).so fun ds => if ds.length = fl.length then .ex (C, ES.fsOf fl ds) else .bad
theorem ls_raise {C : Str} {fl : List Str} : ∀ xq de s n, upS (fRaise C fl l) xq de s n → sRaise C fl (up l) xq de s n := fun xq de s n h => by
  unfold sRaise up
  exact wp_mono (fun ds h => so_dec h) (wp_so h)
/-! loops -/
def fForL (g : FG) (b : FS) : List D → FS
  | [], s => .nx s
  | d :: ds, s => (ofO (g d s)).so fun s1 => match b s1 with
    | .nx s2 => fForL g b ds s2
    | .ct s2 => fForL g b ds s2
    | .bk s2 => .nx s2
    | o => o
theorem for_le {g : FG} {b : FS} {xq : XQ} {de : DE} {n : Nat} : ∀ (ds : List D) (s : Ev), (fForL g b ds s).wp xq de n → sForL (upG g) (upS b) xq de ds s n
  | [], s, h => h
  | d :: ds, s, h => by
    obtain ⟨s1, e1, h⟩ := wp_ofO (wp_so h)
    refine ⟨s1, e1, ?_⟩
    change (b s1).wp xq { de with nx := fun s2 n2 => sForL (upG g) (upS b) xq de ds s2 n2, ct := fun s2 n2 => sForL (upG g) (upS b) xq de ds s2 n2, bk := de.nx } n
    cases e : b s1 <;> rw [e] at h
    · exact for_le ds _ h
    · exact h
    · exact h
    · exact for_le ds _ h
    · exact h
    · exact h
def fFor (i : FM (List D)) (g : FG) (b : FS) : FS := fun s => (i s).so fun ds => fForL g b ds s
theorem ls_for {i : FM (List D)} {g : FG} {b : FS} : ∀ xq de s n, upS (fFor i g b) xq de s n → sFor (up i) (upG g) (upS b) xq de s n := fun xq de s n h => by
  unfold sFor up
  exact wp_mono (fun ds h => for_le ds s h) (wp_so h)
def fForD (p : Ev → Option D) (k : List (Key × D) → List D) (g : FG) (b : FS) : FS := fun s => (asDic (p s)).so fun kvs => fForL g b (k kvs) s
theorem ls_forD {p : Ev → Option D} {k : List (Key × D) → List D} {g : FG} {b : FS} : ∀ xq de s n, upS (fForD p k g b) xq de s n → sForD p k (upG g) (upS b) xq de s n := fun xq de s n h => by
  obtain ⟨kvs, e, h⟩ := wp_asDic (wp_so h)
  exact ⟨kvs, e, for_le _ s h⟩
def fWhileN (t : FM Bool) (b : FS) : Nat → FS
  | 0, _ => .bad
  | k + 1, s => (t s).so fun c => if c = true then (match b s with
    | .nx s2 => fWhileN t b k s2
    | .ct s2 => fWhileN t b k s2
    | .bk s2 => .nx s2
    | o => o) else .nx s
theorem while_le {t : FM Bool} {b : FS} {xq : XQ} {de : DE} {n : Nat} : ∀ (k : Nat) (s : Ev), (fWhileN t b k s).wp xq de n → sWhileN (up t) (upS b) xq de k s n
  | 0, s, h => h
  | k + 1, s, h => by
    unfold sWhileN up
    refine wp_mono (fun c h => ?_) (wp_so h)
    cases c with
    | false => exact h
    | true =>
      rw [if_pos rfl] at h ⊢
      change (b s).wp xq { de with nx := fun s2 n2 => sWhileN (up t) (upS b) xq de k s2 n2, ct := fun s2 n2 => sWhileN (up t) (upS b) xq de k s2 n2, bk := de.nx } n
      cases e : b s <;> rw [e] at h
      · exact while_le k _ h
      · exact h
      · exact h
      · exact while_le k _ h
      · exact h
      · exact h
def FUEL : Nat := 1000000
def fWhile (t : FM Bool) (b : FS) : FS := fWhileN t b FUEL
theorem ls_while {t : FM Bool} {b : FS} : ∀ xq de s n, upS (fWhile t b) xq de s n → sWhile (up t) (upS b) xq de s n := fun xq de s n h => ⟨FUEL, while_le _ _ h⟩
end
/-! ### defs -/
def runB (N : List Str) (b : FS) : FFn := fun ds => match b (startD N ds) with
  | .nx _ => .ok .non
  | .rt d => .ok d
  | .ex x => .ex x
  | _ => .bad
/-- .. that end by return alone -/
def runF (N : List Str) (b : FS) : FFn := fun ds => match b (startD N ds) with
  | .rt d => .ok d
  | .ex x => .ex x
  | _ => .bad
/-- the object that slot 0 holds -/
def objAt (C : Str) (s : Ev) : Res D := match s[0]? with
  | some (some (D.obj C' fs)) => if C' = C then .ok (.obj C fs) else .bad
  | _ => .bad
theorem wp_objAt {C : Str} {s : Ev} {xq : XQ} {n : Nat} {Q : D → Nat → Prop} (h : (objAt C s).wp xq n Q) : ∃ fs, s[0]? = some (some (.obj C fs)) ∧ Q (.obj C fs) n := by
  unfold objAt at h
  split at h
  · rename_i C' fs e2
    obtain ⟨e3, h⟩ := wp_dec h
    exact ⟨fs, by rw [e2, e3], h⟩
  · exact h.elim
def runI (C : Str) (N : List Str) (b : FS) : FFn := fun ds => match b (startD N (.obj C [] :: ds)) with
  | .nx s => objAt C s
  | .ex x => .ex x
  | _ => .bad
theorem meets {len : Nat} {N : List Str} {b : FS} : Meets len N (FSp.of (runB N b)) (upS b) := fun ds n Q xq hl h => by
  have h : (runB N b ds).wp xq n Q := h
  unfold runB at h
  unfold upS
  cases e : b (startD N ds) <;> rw [e] at h <;> first | exact h | exact h.elim
theorem meetsF {len : Nat} {N : List Str} {b : FS} : MeetsF len N (FSp.of (runF N b)) (upS b) := fun ds n Q xq hl h => by
  have h : (runF N b ds).wp xq n Q := h
  unfold runF at h
  unfold upS
  cases e : b (startD N ds) <;> rw [e] at h <;> first | exact h | exact h.elim
theorem meetsI {C : Str} {len : Nat} {N : List Str} {b : FS} : MeetsI C len N (FSp.of (runI C N b)) (upS b) := fun ds n Q xq hl h => by
  have h : (runI C N b ds).wp xq n Q := h
  unfold runI at h
  unfold upS
  cases e : b (startD N (.obj C [] :: ds)) <;> rw [e] at h <;> first | exact wp_objAt h | exact h | exact h.elim
/-- what runI makes is an object of the class -/
theorem runI_obj {C : Str} {N : List Str} {b : FS} {ds : List D} {n : Nat} {Q : D → Nat → Prop} {xq : XQ} (h : (FSp.of (runI C N b)).run ds n Q xq) : (FSp.of (runI C N b)).run ds n (fun d n' => (∃ fs, d = .obj C fs) ∧ Q d n') xq := by
  have h : (runI C N b ds).wp xq n Q := h
  show (runI C N b ds).wp xq n fun d n' => (∃ fs, d = .obj C fs) ∧ Q d n'
  unfold runI at h ⊢
  cases e : b (startD N (.obj C [] :: ds)) <;> rw [e] at h <;> first | exact h | exact h.elim | skip
  obtain ⟨fs, e2, q⟩ := wp_objAt h
  show (objAt C _).wp xq n _
  unfold objAt
  rw [e2]
  show (if C = C then Res.ok (D.obj C fs) else .bad).wp xq n _
  rw [if_pos rfl]
  exact ⟨⟨fs, rfl⟩, q⟩
end DL
namespace DL
open PySem PySem.Spec PyProof.Rows L2
variable [TabC]
section
variable {X : Cx} {E : XK} {O : List Nat} {a b c o : FM D} {l : FM (List D)}
theorem ls_retV {i : Nat} : ∀ xq de s n, upS (fRet (fVar i)) xq de s n → sRet (eVar i) xq de s n := fun xq de s n h => le_var i _ _ _ _ (ls_ret _ _ _ _ h)
theorem ls_setM {i : Nat} {m : EM D} (le : ∀ xq s n Q, up a xq s n Q → m xq s n Q) : ∀ xq de s n, upS (fSetF i a) xq de s n → sSetF i m xq de s n := fun xq de s n h => by
  obtain ⟨e, h⟩ := ls_setF _ _ _ _ h
  exact ⟨e, le _ _ _ _ h⟩
theorem le_meth0 {C mn : Str} {len : Nat} {f : FFn} {dds : List D} : ∀ xq s n Q, up (fMeth C mn len f dds o fNil) xq s n Q → eMeth C mn len (FSp.of f) dds (up o) eNil xq s n Q := fun xq s n Q h => le_meth _ _ _ _ h
theorem loW {e : Expr} {m : EM Bool} {f : FM Bool} (h : VW X E O e m) (le : ∀ xq s n Q, up f xq s n Q → m xq s n Q) : VW X E O e (up f) := by
  obtain ⟨mn, t, p, q⟩ := h
  exact ⟨mn_up, t, p, fun aS A0 H0 σ H s n xq Q S L hm => q aS A0 H0 σ H s n xq Q S L (le _ _ _ _ hm)⟩
end
end DL
namespace DL
open PySem PySem.Spec PyProof.Rows L2
/-! `{**d, k: v}` and `{**d, **e}` -/
section
variable {P : Program} {w : World} {A : Around} {E : Value → Shared → Prop} {s : Shared}
section
variable {M : Model} {Γ : PySem.Ctx} {a : Addr} {f : Array DictEntry → Array DictEntry} {pt : Option Value} {Q : Unit → Pos → Shared → Prop} {X : Value → Pos → Shared → Prop} {p : Pos}
theorem load_any {Q : Obj → Pos → Shared → Prop} : Sem.wp M Γ (loadPart a pt) Q X p s = Sem.wp M Γ (loadPart a none) Q X p s := by rw [Sem.wp_cmd_loadPart, Sem.wp_cmd_loadPart]
theorem upd_any {f : Obj → Obj} : Sem.wp M Γ (updatePart a pt f) Q X p s = Sem.wp M Γ (updatePart a none f) Q X p s := by rw [Sem.wp_cmd_updatePart, Sem.wp_cmd_updatePart]
theorem updD_any (h : Sem.wp M Γ (updateDict a f pt) Q X p s) : Sem.wp M Γ (updateDict a f) Q X p s := by
  unfold updateDict at h ⊢
  rw [Sem.wp_bind', load_any] at h
  rw [Sem.wp_bind']
  refine Sem.wp_mono _ _ _ (fun o p1 s1 h => ?_) (fun _ _ _ h => h) p s h
  cases e : o.data with
  | dict es n =>
    rw [e] at h
    dsimp only at h ⊢
    rw [Sem.wp_bind', upd_any] at h
    rw [Sem.wp_bind']
    refine Sem.wp_mono _ _ _ (fun _ p2 s2 h => ?_) (fun _ _ _ h => h) p1 s1 h
    rw [Sem.wp_bind', load_any] at h
    rw [Sem.wp_bind']
    exact h
  | _ => rw [e] at h; exact h
theorem updK_any (h : Sem.wp M Γ (updateDictKeys a f pt) Q X p s) : Sem.wp M Γ (updateDictKeys a f) Q X p s := by
  unfold updateDictKeys at h ⊢
  rw [Sem.wp_bind', load_any] at h
  rw [Sem.wp_bind']
  refine Sem.wp_mono _ _ _ (fun o p1 s1 h => ?_) (fun _ _ _ h => h) p s h
  cases e : o.data with
  | dict es n =>
    rw [e] at h
    dsimp only at h ⊢
    rw [Sem.wp_bind', upd_any] at h
    rw [Sem.wp_bind']
    refine Sem.wp_mono _ _ _ (fun _ p2 s2 h => ?_) (fun _ _ _ h => h) p1 s1 h
    unfold lookBehind at h ⊢
    rw [Sem.wp_bind', load_any] at h
    rw [Sem.wp_bind']
    exact h
  | _ => rw [e] at h; exact h
end
theorem put_of_set {d : Addr} {h : Int} {key v : Value} {Q : Unit → Shared → Prop} (z : wpAny (model P w) A (dictSetHashed d key h v) Q E s) : wpAny (model P w) A (dictPut d h key v) Q E s := by
  intro Γ p g
  have y := z Γ p g
  unfold dictSetHashed at y
  unfold dictPut
  rw [Sem.wp_holding, Sem.wp_bind'] at y
  rw [Sem.wp_bind']
  refine Sem.wp_mono _ _ _ (fun o p' s' q => ?_) (fun _ _ _ q => q) p s y
  cases o with
  | none =>
    simp only [Sem.wp_bind', rule, Sem.wp_rule] at q ⊢
    exact updK_any q
  | some i =>
    simp only [Sem.wp_bind', rule, Sem.wp_rule] at q ⊢
    refine Sem.wp_mono _ _ _ (fun u p1 s1 q => ?_) (fun _ _ _ q => q) _ _ (updD_any q)
    exact q
/-- the entries behind i, one after the other -/
theorem merge_turns {d a : Addr} {more : List (Key × Value)} {o : Obj} {es : Array DictEntry} {ep : Nat} (hda : d ≠ a) (hdat : o.data = .dict es ep) (hk : KeysOf (mixKind P w) es) (hp : Pairs (mixKind P w) es.toList more) :
    ∀ (is : List Nat) (i : Nat) (kvs : List (Key × Value)) (s : Shared) (Q : PUnit → Shared → Prop), is = List.range' i (es.size - i) → s.heap.get? a = some o → s.heap.DictOf (mixKind P w) d kvs → kvs.length + (more.drop i).length ≤ sizeLine →
    (∀ h', h'.DictOf (mixKind P w) d (merged kvs (more.drop i)) → Heap.SameBut d s.heap h' → Q ⟨⟩ { s with heap := h' }) →
    wpAny (model P w) A (forIn is PUnit.unit fun i (_ : PUnit) => (do
      let l ← dictEntries a
      match l[i]? with
      | some e => do
        holding [e.key, e.val] (dictPut d e.hash e.key e.val)
        let n ← dictEpoch a
        if (n != ep) = true then do
          (unsupported "dict.changed-during-merge" : Sem PUnit)
          pure (ForInStep.yield PUnit.unit)
        else pure (ForInStep.yield PUnit.unit)
      | _ => do
        (unsupported "dict.changed-during-merge" : Sem PUnit)
        pure (ForInStep.yield PUnit.unit) : Sem (ForInStep PUnit))) Q E s := by
  have len : more.length = es.size := by rw [← hp.length]; simp
  intro is
  induction is with
  | nil =>
    intro i kvs s Q hi ha hd hz hQ
    have : es.size - i = 0 := by
      have := congrArg List.length hi
      simpa using this.symm
    have : more.drop i = [] := List.drop_eq_nil_of_le (by omega)
    rw [List.forIn_nil]
    refine wpAny_pure (hQ s.heap ?_ (Heap.SameBut.refl _ _))
    rw [this]
    exact hd
  | cons j is ih =>
    intro i kvs s Q hi ha hd hz hQ
    have hlt : i < es.size := by
      have := congrArg List.length hi
      simp at this
      omega
    have e1 : es.size - i = (es.size - (i + 1)) + 1 := by omega
    rw [e1, List.range'_succ] at hi
    injection hi with hj his
    subst hj
    have hm : j < more.length := by omega
    have hdr : more.drop j = more[j] :: more.drop (j + 1) := (List.drop_eq_getElem_cons hm)
    obtain ⟨hkey, hval⟩ := hp.get? (i := j) (e := es[j]) (by simp [hlt]) (List.getElem?_eq_getElem hm)
    obtain ⟨k', hkey', hhash⟩ := hk es[j] (Array.getElem_mem hlt)
    have hkk : k' = more[j].1 := (mixKind P w).inj _ _ _ hkey' hkey
    rw [hdr, List.length_cons] at hz
    rw [List.forIn_cons]
    refine wpAny_bind (wpAny_bind (wpAny_dictEntries ha hdat ?_))
    rw [Array.getElem?_eq_getElem hlt]
    dsimp only
    rw [hhash, hkk, hval]
    refine wpAny_bind (wpAny_holding (put_of_set (wpAny_dictSetHashed_pairs (hsz := by omega) hkey hd fun h1 hd1 hs1 => ?_)))
    have ha1 : h1.get? a = some o := (hs1.2 a (Ne.symm hda)).trans ha
    refine wpAny_bind (wpAny_dictEpoch ha1 hdat ?_)
    rw [if_neg (by simp)]
    refine wpAny_pure (ih (j + 1) (stored kvs more[j].1 more[j].2) _ Q his ha1 hd1 (by have := stored_length_le kvs more[j].1 more[j].2; omega) fun h' hd' hs' => hQ h' ?_ (hs1.trans hs'))
    rw [hdr]
    exact hd'
/-- d takes over what a holds -/
theorem merge_any {d a : Addr} {kvs more : List (Key × Value)} {Q : Unit → Shared → Prop} (hda : d ≠ a) (hs : (a == sysModules) = false) (hd : s.heap.DictOf (mixKind P w) d kvs) (ha : s.heap.DictOf (mixKind P w) a more) (hz : kvs.length + more.length ≤ sizeLine)
    (hQ : ∀ h', h'.DictOf (mixKind P w) d (merged kvs more) → h'.DictOf (mixKind P w) a more → Heap.SameBut d s.heap h' → Q () { s with heap := h' }) :
    wpAny (model P w) A (mergeMapping d (.ref a) false) Q E s := by
  obtain ⟨o, es, ep, g, gc, gd, gk, gp, gn⟩ := id ha
  obtain ⟨od, esd, epd, fo, fc, fd, fk, fp, fn⟩ := id hd
  have loop : ∀ s1 : Shared, s1 = s → wpAny (model P w) A (do
      let l ← dictEntries a
      let n ← dictEpoch a
      forIn (List.range l.size) PUnit.unit fun i (_ : PUnit) => (do
          let l ← dictEntries a
          match l[i]? with
          | some e => do
            holding [e.key, e.val] (dictPut d e.hash e.key e.val)
            let m ← dictEpoch a
            if (m != n) = true then do
              (unsupported "dict.changed-during-merge" : Sem PUnit)
              pure (ForInStep.yield PUnit.unit)
            else pure (ForInStep.yield PUnit.unit)
          | _ => do
            (unsupported "dict.changed-during-merge" : Sem PUnit)
            pure (ForInStep.yield PUnit.unit) : Sem (ForInStep PUnit))
      pure ()) Q E s1 := by
    rintro _ rfl
    refine wpAny_bind (wpAny_dictEntries g gd (wpAny_bind (wpAny_dictEpoch g gd (wpAny_bind ?_))))
    refine merge_turns hda gd gk gp _ 0 kvs _ _ (by rw [List.range_eq_range']; rfl) g hd (by simpa using hz) fun h' q1 q2 => wpAny_pure (hQ h' (by simpa using q1) ⟨o, es, ep, (q2.2 a (Ne.symm hda)).trans g, gc, gd, gk, gp, gn⟩ q2)
  unfold mergeMapping
  refine wpAny_bind ?_
  refine wpAny_mono (Q := fun b s1 => b = true ∧ s1 = s) (wpAny_isInstance ha.typeIs isSubtype_dict_dict ⟨rfl, rfl⟩) ?_ fun _ _ q => q
  rintro b s1 ⟨rfl, rfl⟩
  rw [if_pos rfl]
  refine wpAny_bind (wpAny_specialOf ha.typeIs F.slot_dict_iter.lookup (wpAny_bind (wpAny_pure ?_)))
  simp only [beq_self_eq_true]
  rw [if_neg (by rw [hs]; exact Bool.false_ne_true)]
  refine wpAny_bind (wpAny_dictEntries fo fd ?_)
  split
  · refine wpAny_bind (wpAny_dictEntries g gd (wpAny_bind ?_))
    rw [← Array.forIn_toList]
    refine wpAny_forIn_list _ (fun l _ s2 => s2 = s1 ∧ ∀ e, e ∈ l → e ∈ es) (fun _ s2 => wpAny (model P w) A _ Q E s2) (fun e l _ s2 q => ?_) (fun _ s2 q => ?_) _ _ ⟨rfl, fun e h => Array.mem_toList_iff.mp h⟩
    · obtain ⟨rfl, q⟩ := q
      obtain ⟨k, hkey, _⟩ := gk e (q e List.mem_cons_self)
      have hv := (mixKind P w).byValue k _ hkey
      cases hke : e.key with
      | ref b => rw [hke] at hv; exact absurd hv Bool.false_ne_true
      | _ => exact wpAny_pure ⟨rfl, fun e h => q e (List.mem_cons_of_mem _ h)⟩
    · exact loop s2 q.1
  · exact loop s1 rfl
end
section
variable {X : Cx} {m e : Expr} {k v : Expr} {tm te tk tv : TE} {pos : Pos}
theorem wIfT {α : Type} {c : Prop} [Decidable c] {a b : Sem α} {M : Model} {A : Around} {E : Value → Shared → Prop} {Q : α → Shared → Prop} {s : Shared} (hc : c) (h : wpAny M A a Q E s) : wpAny M A (if c then a else b) Q E s := by rw [if_pos hc]; exact h
theorem wIfN {α : Type} {c : Prop} [Decidable c] {a b : Sem α} {M : Model} {A : Around} {E : Value → Shared → Prop} {Q : α → Shared → Prop} {s : Shared} (hc : ¬ c) (h : wpAny M A b Q E s) : wpAny M A (if c then a else b) Q E s := by rw [if_neg hc]; exact h
/-- p, empty, takes over what a holds -/
theorem merge0_I {pins : List (Addr × Obj)} {σ : L2.St} {H : Hp} {s : Shared} {p a : Addr} {more : List (Key × V)} {A : Around} {E : Value → Shared → Prop} {Q : Unit → Shared → Prop} (I : L2.Inv X pins σ H s) (hpa : p ≠ a) (hp : H p = some (.dK [])) (ha : Rd H a (.dK more))
    (hQ : ∀ s', L2.Inv X pins σ (upd H p (.dK more)) s' → Q () s') : wpAny (model X.prog X.w) A (mergeMapping p (.ref a) false) Q E s := by
  obtain ⟨z1, y1, vs1, r1, d1⟩ := dk_rd I.hok (.inl hp)
  obtain ⟨z2, y2, vs2, r2, d2⟩ := dk_rd I.hok ha
  cases r1
  refine merge_any hpa y2 d1 d2 (by rw [← r2.length]; simpa using z2) fun h' q1 _ q2 => ?_
  have e : merged [] vs2 = vs2 := let ⟨_, _, _, _, _, _, _, _, n⟩ := d2; merged_nil_of_nodup vs2 n
  rw [e] at q1
  exact hQ _ (d_write (t' := s.toks) I (by rw [hp]; exact True.intro) q2 (let ⟨q, _, _, hq, _⟩ := q1; ⟨q, hq⟩) (dk_new z2 y1 r2 q1))
theorem merge_I {pins : List (Addr × Obj)} {σ : L2.St} {H : Hp} {s : Shared} {p a : Addr} {kvs more : List (Key × V)} {A : Around} {E : Value → Shared → Prop} {Q : Unit → Shared → Prop} (I : L2.Inv X pins σ H s) (hpa : p ≠ a) (hp : H p = some (.dK kvs)) (ha : Rd H a (.dK more)) (hl : kvs.length + more.length ≤ sizeLine)
    (hQ : ∀ s', L2.Inv X pins σ (upd H p (.dK (mergeK kvs more))) s' → Q () s') : wpAny (model X.prog X.w) A (mergeMapping p (.ref a) false) Q E s := by
  obtain ⟨z1, y1, vs1, r1, d1⟩ := dk_rd I.hok (.inl hp)
  obtain ⟨z2, y2, vs2, r2, d2⟩ := dk_rd I.hok ha
  refine merge_any hpa y2 d1 d2 (by rw [← r2.length, ← r1.length]; exact hl) fun h' q1 _ q2 => ?_
  exact hQ _ (d_write (t' := s.toks) I (by rw [hp]; exact True.intro) q2 (let ⟨q, _, _, hq, _⟩ := q1; ⟨q, hq⟩) (dk_new (Nat.le_trans (length_mergeK more kvs) hl) y1 (r2.merge r1) q1))
/-- {**m, k: v} -/
def tDsp1 (tm tk tv : TE) : TE := fun σ H Q => ∀ p, H p = none → tm σ (upd H p (.dK [])) fun x H1 => H1 p = some (.dK []) ∧ ∃ a kvs, x = .ref a ∧ p ≠ a ∧ Rd H1 a (.dK kvs) ∧ kvs.length < 1000000 ∧
  ∀ q, upd H1 p (.dK kvs) q = none → tk σ (upd (upd H1 p (.dK kvs)) q (.dK [])) fun y H2 => tv σ H2 fun z H3 => ∃ key, y = kV key ∧ p ≠ q ∧ H3 p = some (.dK kvs) ∧ H3 q = some (.dK []) ∧ Q (.ref p) (upd (upd H3 q (.dK [(key, z)])) p (.dK (putK kvs key z)))
theorem pe_dsp1 (hm : PE X m tm) (hk : PE X k tk) (hv : PE X v tv) : PE X (.Dict [none, some k] [m, v] pos) (tDsp1 tm tk tv) := by
  refine ⟨fun pins s σ H Q I q => ?_⟩
  have hn := I.hok.fresh (Nat.le_refl s.heap.objs.size)
  have I1 := I.laid (a := s.heap.objs.size) (o := .dK []) (h' := s.heap.push { cls := .type "dict", data := .dict #[] }) (t' := s.toks) (fun _ _ q => Heap.get?_push_of_some _ q) (Nat.le_refl _) (dk_empty s.heap I.big)
  rw [arm_eval_Dict]
  refine wpAny_bind (wpAny_standAt ?_)
  show wpAny _ _ (dictDisplay [(none, do let x ← eval m X.env; standAt pos; pure x), (some (eval k X.env), do let x ← eval v X.env; standAt pos; pure x)]) _ _ _
  unfold dictDisplay
  simp only [List.forIn_cons, List.forIn_nil]
  refine wpAny_bind (wpAny_bind (wpAny_bind (wIfT rfl (wpAny_pure ?_))))
  dsimp only
  refine wpAny_bind (wpAny_alloc (wpAny_bind (wpAny_holding (wpAny_bind (thn (hm.run pins _ σ _ _ I1 (q _ hn)) fun u s1 ⟨x, H1, I2, rx, hp, a, kvs, ex, hpa, ha, hl, q2⟩ => ?_)))))
  subst ex
  cases (show u = Value.ref a from rx)
  refine wpAny_bind (wpAny_standAt (wpAny_pure (wpAny_bind (wpAny_onRaise (wpAny_tryCatch (wpAny_onRaise (wpAny_holding (merge0_I I2 hpa hp ha fun s2 I3 => ?_))))))))
  refine wpAny_pure ?_
  dsimp only
  refine wpAny_bind (wIfN (fun z => nomatch z) (wpAny_pure (wpAny_pure ?_)))
  dsimp only
  refine wpAny_bind (wIfN Bool.false_ne_true (wpAny_bind (wpAny_holding ?_)))
  have hn2 := I3.hok.fresh (Nat.le_refl s2.heap.objs.size)
  have I4 := I3.laid (a := s2.heap.objs.size) (o := .dK []) (h' := s2.heap.push { cls := .type "dict", data := .dict #[] }) (t' := s2.toks) (fun _ _ q => Heap.get?_push_of_some _ q) (Nat.le_refl _) (dk_empty s2.heap I3.big)
  refine wpAny_subDict (knd := mixKind X.prog X.w) (by show 1 ≤ 15; decide) ?_
  refine evalPairs_cons (thn (hk.run pins _ σ _ _ I4 (q2 _ hn2)) fun u s3 ⟨y, H2, I5, ry, q3⟩ => ?_)
  refine wpAny_bind (thn (hv.run pins _ σ _ _ I5 q3) fun u2 s4 ⟨z, H3, I6, rz, key, ey, hpq, hp3, hq3, q4⟩ => wpAny_bind (wpAny_standAt (wpAny_pure (evalPairs_nil ?_))))
  subst ey
  obtain ⟨w1, w2, vs0, r0, dd⟩ := dk_of I6.hok hq3
  cases r0
  refine ⟨[(key, u2)], ⟨kV_is ry, rfl, True.intro⟩, dd, fun h' dd' hs => ?_⟩
  have I7 := d_write (t' := s4.toks + [(u, u2)].length) (ob := .dK [(key, z)]) I6 (by rw [hq3]; exact True.intro) hs (let ⟨q, _, _, hq, _⟩ := dd'; ⟨q, hq⟩) (dk_new (by rw [sizeLine_eq]; show 1 ≤ 16777216; decide) w2 (.cons ⟨rfl, rz⟩ .nil) dd')
  refine wpAny_bind (wpAny_onRaise (wpAny_holding (merge_I I7 hpq (by rw [upd_ne hpq]; exact hp3) (.inl upd_same) (by rw [sizeLine_eq]; simp only [List.length_cons, List.length_nil]; omega) fun s5 I8 => ?_)))
  exact wpAny_pure (wpAny_pure ⟨.ref _, _, I8, rfl, q4⟩)
/-- {**m, **e} -/
def tDsp2 (tm te : TE) : TE := fun σ H Q => ∀ p, H p = none → tm σ (upd H p (.dK [])) fun x H1 => H1 p = some (.dK []) ∧ ∃ a kvs, x = .ref a ∧ p ≠ a ∧ Rd H1 a (.dK kvs) ∧ kvs.length < 1000000 ∧
  te σ (upd H1 p (.dK kvs)) fun y H2 => ∃ b more, y = .ref b ∧ p ≠ b ∧ Rd H2 b (.dK more) ∧ more.length < 1000000 ∧ H2 p = some (.dK kvs) ∧ Q (.ref p) (upd H2 p (.dK (mergeK kvs more)))
theorem pe_dsp2 (hm : PE X m tm) (he : PE X e te) : PE X (.Dict [none, none] [m, e] pos) (tDsp2 tm te) := by
  refine ⟨fun pins s σ H Q I q => ?_⟩
  have hn := I.hok.fresh (Nat.le_refl s.heap.objs.size)
  have I1 := I.laid (a := s.heap.objs.size) (o := .dK []) (h' := s.heap.push { cls := .type "dict", data := .dict #[] }) (t' := s.toks) (fun _ _ q => Heap.get?_push_of_some _ q) (Nat.le_refl _) (dk_empty s.heap I.big)
  rw [arm_eval_Dict]
  refine wpAny_bind (wpAny_standAt ?_)
  show wpAny _ _ (dictDisplay [(none, do let x ← eval m X.env; standAt pos; pure x), (none, do let x ← eval e X.env; standAt pos; pure x)]) _ _ _
  unfold dictDisplay
  simp only [List.forIn_cons, List.forIn_nil]
  refine wpAny_bind (wpAny_bind (wpAny_bind (wIfT rfl (wpAny_pure ?_))))
  dsimp only
  refine wpAny_bind (wpAny_alloc (wpAny_bind (wpAny_holding (wpAny_bind (thn (hm.run pins _ σ _ _ I1 (q _ hn)) fun u s1 ⟨x, H1, I2, rx, hp, a, kvs, ex, hpa, ha, hl, q2⟩ => ?_)))))
  subst ex
  cases (show u = Value.ref a from rx)
  refine wpAny_bind (wpAny_standAt (wpAny_pure (wpAny_bind (wpAny_onRaise (wpAny_tryCatch (wpAny_onRaise (wpAny_holding (merge0_I I2 hpa hp ha fun s2 I3 => ?_))))))))
  refine wpAny_pure ?_
  dsimp only
  refine wpAny_bind (wpAny_bind (wIfT rfl (wpAny_pure ?_)))
  dsimp only
  refine wpAny_bind (wpAny_pure (wpAny_bind (wpAny_holding (wpAny_bind (thn (he.run pins _ σ _ _ I3 q2) fun u s3 ⟨y, H2, I4, ry, b, more, ey, hpb, hb, hl2, hp2, q3⟩ => ?_)))))
  subst ey
  cases (show u = Value.ref b from ry)
  refine wpAny_bind (wpAny_standAt (wpAny_pure (wpAny_bind (wpAny_onRaise (wpAny_tryCatch (wpAny_onRaise (wpAny_holding (merge_I I4 hpb hp2 hb (by rw [sizeLine_eq]; omega) fun s4 I5 => ?_))))))))
  refine wpAny_pure (wpAny_pure ?_)
  exact wpAny_bind (wIfT rfl (wpAny_pure (wpAny_pure ⟨.ref _, _, I5, rfl, q3⟩)))
end
end DL
namespace DL
open PySem PySem.Spec PyProof.Rows L2
variable [TabC]
section
variable {K : PySem.W.Frag} {aS p : Addr} {H H' H0 : Hp} {A : AS} {A0 A1 : A0T} {O : List Nat} {σ : L2.St} {s : Ev} {n n' : Nat}
theorem LX.wide {E : XK} {xq : XQ} (L : LX K E aS A0 H0 xq) (hle : ∀ b, A0 b → A1 b) : LX K E aS A1 H0 xq := fun C fs n d H' kp st h q => by
  refine L C fs n d H' kp st ?_ q
  cases d with
  | none => exact h
  | some a =>
    obtain ⟨ys, e1, e2, e3⟩ := h
    exact ⟨ys, e1, e2, RepF.mono (sub_le fun b z => z.elim (fun z => .inl (hle b z)) .inr) _ _ e3⟩
theorem SR.h0 (S : SR K aS O A0 H0 σ H s n) (hp : H p = none) : H0 p = none := Option.eq_none_iff_forall_ne_some.mpr fun u z => S.fr.gone hp z fun e => by
  obtain ⟨xs, h⟩ := S.st.lst
  rw [← e, hp] at h
  cases h
theorem SR.ne (S : SR K aS O A0 H0 σ H s n) (hp : H p = none) : p ≠ aS := fun e => by
  obtain ⟨xs, h⟩ := S.st.lst
  rw [← e, hp] at h
  cases h
theorem rep_dic {d : List (Key × D)} {v : V} (h : Rep K aS H A (.dic d) v) : ∃ a ys, v = .ref a ∧ ¬ A a ∧ Rd H a (.dK ys) ∧ RepK K aS H A d ys := by rw [Rep] at h; exact h
end
def eDsp1 (mm mk mv : EM D) : EM D := fun xq s n Q => mm xq s n fun d n1 => ∃ kvs, d = .dic kvs ∧ kvs.length < LIM ∧ mk xq s n1 fun k n2 => ∃ kk, keyD k = some kk ∧ mv xq s n2 fun v n3 => Q (.dic (putD kvs kk v)) n3
def eDsp2 (mm me : EM D) : EM D := fun xq s n Q => mm xq s n fun d n1 => ∃ kvs, d = .dic kvs ∧ kvs.length < LIM ∧ me xq s n1 fun d n2 => ∃ more, d = .dic more ∧ more.length < LIM ∧ Q (.dic (mergeD kvs more)) n2
section
variable {X : Cx} {E : XK} {O : List Nat} {m e k v : Expr} {mm me mk mv : EM D} {pos : Pos}
theorem vf_dsp1 (hm : VE X E O m mm) (hk : VE X E O k mk) (hv : VE X E O v mv) : VF X E O (.Dict [none, some k] [m, v] pos) (eDsp1 mm mk mv) := by
  obtain ⟨mn1, t1, p1, f1⟩ := hm
  obtain ⟨mn2, t2, p2, f2⟩ := hk
  obtain ⟨mn3, t3, p3, f3⟩ := hv
  refine ⟨fun xq s n Q Q' hq w => mn1 _ _ _ _ _ (fun d n1 ⟨kvs, e1, e2, w⟩ => ⟨kvs, e1, e2, mn2 _ _ _ _ _ (fun d n2 ⟨kk, e3, w⟩ => ⟨kk, e3, mn3 _ _ _ _ _ (fun d n3 w => hq _ _ w) w⟩) w⟩) w, _, pe_dsp1 p1 p2 p3, fun aS A0 H0 σ H s n xq Q S L hm p hp => ?_⟩
  have S1 := S.laidA (o := .dK []) hp
  have L1 : LX X.K E aS (A0T.mk (fun b => A0 b ∨ b = p) A0.z) H0 xq := L.wide fun b z => .inl z
  have ps := S.ne hp
  refine f1 aS _ H0 σ _ s n xq _ S1 L1 (mn1 _ _ _ _ _ (fun d1 n1 q1 v1 H1 k1 st1 r1 => ?_) hm)
  obtain ⟨kvs, e1, hl, q1⟩ := q1
  subst e1
  obtain ⟨a, ys, ev, na, ra, rk⟩ := rep_dic r1
  have hp1 : H1 p = some (.dK []) := k1.dk upd_same ps
  have hpa : p ≠ a := fun z => na (by rw [AV.plus]; exact .inr z.symm)
  have S2 := S1.step k1 st1
  have S3 := S2.poke (o' := .dK ys) (.inr rfl) ps hp1 (S.h0 hp) (fun _ z => by cases z) (fun _ _ z => by cases z)
  refine ⟨hp1, a, ys, ev, hpa, ra, ?_, fun q hq => ?_⟩
  · have := rk.length
    unfold LIM at hl
    omega
  have S4 := S3.laidA (o := .dK []) hq
  have hpq : p ≠ q := fun z => by rw [← z, upd_same] at hq; cases hq
  have qs := S3.ne hq
  have L2 := L1.wide (A1 := A0T.mk (fun b => (A0 b ∨ b = p) ∨ b = q) A0.z) fun b z => .inl z
  refine f2 aS _ H0 σ _ s n1 xq _ S4 L2 (mn2 _ _ _ _ _ (fun d2 n2 q2 v2 H2 k2 st2 r2 => ?_) q1)
  obtain ⟨kk, e2, q2⟩ := q2
  have S5 := S4.step k2 st2
  refine f3 aS _ H0 σ _ s n2 xq _ S5 L2 (mn3 _ _ _ _ _ (fun d3 n3 q3 v3 H3 k3 st3 r3 => ?_) q2)
  have S6 := S5.step k3 st3
  have kk6 := k2.trans k3
  have hp3 : H3 p = some (.dK ys) := kk6.dk (by rw [upd_ne hpq]; exact upd_same) ps
  have hq3 : H3 q = some (.dK []) := kk6.dk upd_same qs
  have S7 := S6.poke (o' := .dK [(kk, v3)]) (.inr rfl) qs hq3 (S3.h0 hq) (fun _ z => by cases z) (fun _ _ z => by cases z)
  have S8 := S7.poke (p := p) (o' := .dK (putK ys kk v3)) (.inl (.inr rfl)) ps (by rw [upd_ne hpq]; exact hp3) (S.h0 hp) (fun _ z => by cases z) (fun _ _ z => by cases z)
  refine ⟨kk, key_rep e2 (r2.b AV.st), hpq, hp3, hq3, q3 p _ hp ?_ S8.st ?_⟩
  · have z1 : KpS aS H H1 := (KpS.upd hp).trans k1
    have z2 : KpS aS H (upd H1 p (.dK ys)) := z1.upd2 hp
    have z3 : H q = none := Option.eq_none_iff_forall_ne_some.mpr fun u z => z2.gone hq z qs
    exact ((((z2.trans (KpS.upd hq)).trans kk6).upd2 z3).upd2 hp)
  · have ap : AV aS (fun b => A0 b ∨ b = p) O σ p := .inl (.inr rfl)
    have aq : AV aS (fun b => (A0 b ∨ b = p) ∨ b = q) O σ q := .inl (.inr rfl)
    have ap2 : AV aS (fun b => (A0 b ∨ b = p) ∨ b = q) O σ p := .inl (.inl (.inr rfl))
    have y1 := RepK.mono (sub_poke (o' := .dK ys) ap hp1 (fun _ z => by cases z)) _ _ rk
    have y2 := RepK.mono (sub_new (o := .dK []) hq) _ _ y1
    have y3 := RepK.kp k3 st2 (A := AV aS (fun b => (A0 b ∨ b = p) ∨ b = q) O σ) AV.st (RepK.kp k2 S4.st (A := AV aS (fun b => (A0 b ∨ b = p) ∨ b = q) O σ) AV.st (by rw [AV.plus]; exact y2))
    have y4 := y3.put kk r3
    have y5 := RepK.mono (sub_poke (o' := .dK [(kk, v3)]) aq hq3 (fun _ z => by cases z)) _ _ y4
    have y6 := RepK.mono (sub_poke (o' := .dK (putK ys kk v3)) ap2 (by rw [upd_ne hpq]; exact hp3) (fun _ z => by cases z)) _ _ y5
    refine ⟨_, upd_same, RepK.mono (sub_le fun b z => ?_) _ _ y6⟩
    rw [AV.plus, AV.plus]
    exact .inl z
theorem vf_dsp2 (hm : VE X E O m mm) (he : VE X E O e me) : VF X E O (.Dict [none, none] [m, e] pos) (eDsp2 mm me) := by
  obtain ⟨mn1, t1, p1, f1⟩ := hm
  obtain ⟨mn2, t2, p2, f2⟩ := he
  refine ⟨fun xq s n Q Q' hq w => mn1 _ _ _ _ _ (fun d n1 ⟨kvs, e1, e2, w⟩ => ⟨kvs, e1, e2, mn2 _ _ _ _ _ (fun d n2 ⟨more, e3, e4, w⟩ => ⟨more, e3, e4, hq _ _ w⟩) w⟩) w, _, pe_dsp2 p1 p2, fun aS A0 H0 σ H s n xq Q S L hm p hp => ?_⟩
  have S1 := S.laidA (o := .dK []) hp
  have L1 : LX X.K E aS (A0T.mk (fun b => A0 b ∨ b = p) A0.z) H0 xq := L.wide fun b z => .inl z
  have ps := S.ne hp
  have ap : AV aS (fun b => A0 b ∨ b = p) O σ p := .inl (.inr rfl)
  refine f1 aS _ H0 σ _ s n xq _ S1 L1 (mn1 _ _ _ _ _ (fun d1 n1 q1 v1 H1 k1 st1 r1 => ?_) hm)
  obtain ⟨kvs, e1, hl, q1⟩ := q1
  subst e1
  obtain ⟨a, ys, ev, na, ra, rk⟩ := rep_dic r1
  have hp1 : H1 p = some (.dK []) := k1.dk upd_same ps
  have hpa : p ≠ a := fun z => na (by rw [AV.plus]; exact .inr z.symm)
  have S2 := S1.step k1 st1
  have S3 := S2.poke (o' := .dK ys) (.inr rfl) ps hp1 (S.h0 hp) (fun _ z => by cases z) (fun _ _ z => by cases z)
  refine ⟨hp1, a, ys, ev, hpa, ra, ?_, ?_⟩
  · have := rk.length
    unfold LIM at hl
    omega
  refine f2 aS _ H0 σ _ s n1 xq _ S3 L1 (mn2 _ _ _ _ _ (fun d2 n2 q2 v2 H2 k2 st2 r2 => ?_) q1)
  obtain ⟨more, e2, hl2, q2⟩ := q2
  subst e2
  obtain ⟨b, zs, ev2, nb, rb, rk2⟩ := rep_dic r2
  have hpb : p ≠ b := fun z => nb (by rw [AV.plus]; exact .inr z.symm)
  have hp2 : H2 p = some (.dK ys) := k2.dk upd_same ps
  have S4 := S3.step k2 st2
  have S5 := S4.poke (o' := .dK (mergeK ys zs)) (.inr rfl) ps hp2 (S.h0 hp) (fun _ z => by cases z) (fun _ _ z => by cases z)
  refine ⟨b, zs, ev2, hpb, rb, ?_, hp2, q2 p _ hp ?_ S5.st ?_⟩
  · have := rk2.length
    unfold LIM at hl2
    omega
  · have z1 : KpS aS H H1 := (KpS.upd hp).trans k1
    have z2 : KpS aS H (upd H1 p (.dK ys)) := z1.upd2 hp
    exact (z2.trans k2).upd2 hp
  · have y1 := RepK.mono (sub_poke (o' := .dK ys) ap hp1 (fun _ z => by cases z)) _ _ rk
    have y3 := RepK.kp k2 S3.st (A := AV aS (fun b => A0 b ∨ b = p) O σ) AV.st y1
    have y4 := RepK.merge rk2 y3
    have y6 := RepK.mono (sub_poke (o' := .dK (mergeK ys zs)) ap hp2 (fun _ z => by cases z)) _ _ y4
    refine ⟨_, upd_same, RepK.mono (sub_le fun b z => ?_) _ _ y6⟩
    rw [AV.plus]
    exact z
end
end DL
namespace DL
open PySem PySem.Spec PyProof.Rows L2
variable [TabC]
/-! `{k: v, ..}` -/
def RepP (K : PySem.W.Frag) (aS : Addr) (H : Hp) (A : AS) : List (D × D) → List (V × V) → Prop
  | [], vs => vs = []
  | d :: ds, vs => ∃ x y vr, vs = (x, y) :: vr ∧ Rep K aS H A d.1 x ∧ Rep K aS H A d.2 y ∧ RepP K aS H A ds vr
def kvD : List (D × D) → Option (List (Key × D))
  | [] => some []
  | (k, v) :: r => match keyD k, kvD r with
    | some k, some r => some ((k, v) :: r)
    | _, _ => none
theorem RepP.keys {K : PySem.W.Frag} {aS : Addr} {H : Hp} {A : AS} (hA : A aS) : ∀ {ps : List (D × D)} {kvs : List (Key × D)} {vs : List (V × V)}, RepP K aS H A ps vs → kvD ps = some kvs → ∃ ys : List (Key × V), vs = ys.map (fun kv => (kV kv.1, kv.2)) ∧ RepK K aS H A kvs ys
  | [], kvs, vs, h, e => by cases e; exact ⟨[], h, RepK.nil⟩
  | (k, v) :: ps, kvs, vs, h, e => by
    obtain ⟨x, y, vr, e1, r1, r2, h⟩ := h
    unfold kvD at e
    cases e2 : keyD k with
    | none => rw [e2] at e; cases e
    | some kk =>
      cases e3 : kvD ps with
      | none => rw [e2, e3] at e; cases e
      | some r =>
        rw [e2, e3] at e
        cases e
        obtain ⟨ys, e4, q⟩ := RepP.keys hA h e3
        exact ⟨(kk, y) :: ys, by rw [e1, e4, List.map_cons, key_rep e2 (r1.b hA)], RepK.cons r2 q⟩
def VPr (X : Cx) (E : XK) (O : List Nat) (pos : Pos) (ks : List (Option Expr)) (vs : List Expr) (m : EM (List (D × D))) : Prop := Mn m ∧ ∃ t, PPs X pos ks vs t ∧ ∀ (aS : Addr) (A0 : A0T) (H0 : Hp) (σ : L2.St) (H : Hp) (s : Ev) (n : Nat) (xq : XQ) (Q : List (V × V) → Hp → Prop), SR X.K aS O A0 H0 σ H s n → LX X.K E aS A0 H0 xq →
  m xq s n (fun d n' => ∀ v H', KpS aS H H' → StA X.K aS H' n' → RepP X.K aS H' (AV aS A0 O σ) d v → Q v H') → tPairs t σ H Q
def prNil : EM (List (D × D)) := fun _ _ n Q => Q [] n
def prCons (mk mv : EM D) (r : EM (List (D × D))) : EM (List (D × D)) := fun xq s n Q => mk xq s n fun k n1 => mv xq s n1 fun v n2 => r xq s n2 fun ps n3 => Q ((k, v) :: ps) n3
def eDisp (m : EM (List (D × D))) : EM D := fun xq s n Q => m xq s n fun ps n1 => ∃ kvs, kvD ps = some kvs ∧ kvs.length ≤ 15 ∧ Q (.dic (mergeD [] kvs)) n1
section
variable {X : Cx} {E : XK} {O : List Nat} {k v : Expr} {ks : List (Option Expr)} {vs : List Expr} {mk mv : EM D} {mp : EM (List (D × D))} {pos : Pos}
theorem vpr_nil : VPr X E O pos [] [] prNil := ⟨fun _ _ _ _ _ hq h => hq _ _ h, [], pps_nil, fun aS A0 H0 σ H s n xq Q S L h => h _ _ KpS.refl S.st rfl⟩
theorem vpr_cons (hk : VE X E O k mk) (hv : VE X E O v mv) (hr : VPr X E O pos ks vs mp) : VPr X E O pos (some k :: ks) (v :: vs) (prCons mk mv mp) := by
  obtain ⟨mn1, t1, p1, f1⟩ := hk
  obtain ⟨mn2, t2, p2, f2⟩ := hv
  obtain ⟨mn3, t3, p3, f3⟩ := hr
  refine ⟨fun xq s n Q Q' hq w => mn1 _ _ _ _ _ (fun d n1 w => mn2 _ _ _ _ _ (fun d n2 w => mn3 _ _ _ _ _ (fun d n3 w => hq _ _ w) w) w) w, _, pps_cons p1 p2 p3, fun aS A0 H0 σ H s n xq Q S L hm => ?_⟩
  refine f1 aS A0 H0 σ H s n xq _ S L (mn1 _ _ _ _ _ (fun d1 n1 q1 v1 H1 k1 st1 r1 => ?_) hm)
  have S1 := S.step k1 st1
  refine f2 aS A0 H0 σ H1 s n1 xq _ S1 L (mn2 _ _ _ _ _ (fun d2 n2 q2 v2 H2 k2 st2 r2 => ?_) q1)
  have S2 := S1.step k2 st2
  refine f3 aS A0 H0 σ H2 s n2 xq _ S2 L (mn3 _ _ _ _ _ (fun d3 n3 q3 v3 H3 k3 st3 r3 => ?_) q2)
  exact q3 _ _ ((k1.trans k2).trans k3) st3 ⟨v1, v2, v3, rfl, (r1.kp k2 st1 AV.st).kp k3 st2 AV.st, r2.kp k3 st2 AV.st, r3⟩
theorem vf_disp (h : VPr X E O pos ks vs mp) (hall : ks.all (·.isSome) = true := by rfl) (hl : ks.length = vs.length := by rfl) (h0 : ks ≠ [] := by intro z; cases z) (h15 : ks.length ≤ 15 := by decide) : VF X E O (.Dict ks vs pos) (eDisp mp) := by
  obtain ⟨mn, t, p, f⟩ := h
  refine ⟨fun xq s n Q Q' hq w => mn _ _ _ _ _ (fun d n1 ⟨kvs, e1, e2, w⟩ => ⟨kvs, e1, e2, hq _ _ w⟩) w, _, pe_disp p hall hl h0 h15, fun aS A0 H0 σ H s n xq Q S L hm p hp => ?_⟩
  have S1 := S.laidA (o := .dK []) hp
  have L1 : LX X.K E aS (A0T.mk (fun b => A0 b ∨ b = p) A0.z) H0 xq := L.wide fun b z => .inl z
  have ps := S.ne hp
  refine f aS _ H0 σ _ s n xq _ S1 L1 (mn _ _ _ _ _ (fun d1 n1 q1 v1 H1 k1 st1 r1 => ?_) hm)
  obtain ⟨kvs, e1, hl, q1⟩ := q1
  obtain ⟨ys, e2, rk⟩ := RepP.keys AV.st r1 e1
  have hp1 : H1 p = some (.dK []) := k1.dk upd_same ps
  have S2 := S1.step k1 st1
  have S3 := S2.poke (o' := .dK (mergeK [] ys)) (.inr rfl) ps hp1 (S.h0 hp) (fun _ z => by cases z) (fun _ _ z => by cases z)
  refine ⟨hp1, ys, e2, by rw [rk.length]; exact hl, q1 p _ hp (((KpS.upd hp).trans k1).upd2 hp) S3.st ⟨_, upd_same, ?_⟩⟩
  have y := RepK.mono (sub_poke (o' := .dK (mergeK [] ys)) (.inl (.inr rfl)) hp1 (fun _ z => by cases z)) _ _ (RepK.merge rk RepK.nil)
  rw [AV.plus] at y
  exact y
end
end DL
namespace DL
open PySem PySem.Spec PyProof.Rows L2
variable [TabC]
/-! o[k] by an own __getitem__ -/
section
variable {X : Cx} {CX : CXT} {C f : Addr} {fd : FuncData} {ps : List Str} {sp : Sp} {E : XK} {k : Nat} {o e : Expr} {to te : TE} {pos : Pos}
theorem run_in1 {pins : List (Addr × Obj)} {σ : L2.St} {H : Hp} {s : Shared} {Q : VK} {us : List Value} {vs : List V} (F : FnOk X.prog X.w X.K X.mg X.base CX k f fd ps sp) (hr : Room (k + 1) X.A) (hb : Binds X.K fd ps []) (hx : Passes CX X E)
    (I : L2.Inv X pins σ H s) (r : Vals vs us) (h : sp vs H Q E) : wpAny (model X.prog X.w) X.A.in1 (call (.ref f) us) (EP X pins σ Q) X.xe s := by
  have e := I.env0
  have e0 : Env0 X.prog X.w X.K X.mg X.base X.A.in1 X.stack s H := ⟨e.frames, e.mod, e.bs, e.bsz, e.funs, e.frf, e.hok, e.bare⟩
  have hl : us.length = ps.length := by rw [← r.length]; exact F.len _ _ _ _ h
  have bd := hb s us I.kIn (by rw [List.append_nil]; exact hl)
  rw [List.append_nil] at bd
  refine wpAny_call (codeAny_mono (F.run X.A.in1 X.stack s H ⟨us, []⟩ us vs Q E hr.in1 e0 bd r h) fun r s' hq => ?_)
  cases r with
  | error x => exact hx pins σ H s x s' I hq
  | ok fl =>
    cases fl with
    | ret u => exact I.after hq
    | _ => exact False.elim hq
def tItem (C : Addr) (sp : Sp) (E : XK) (to te : TE) : TE := fun σ H Q => to σ H fun x H1 => te σ H1 fun y H2 => ∃ a dx fs, x = .ref a ∧ H2 a = some (.ins C dx fs) ∧ sp [x, y] H2 Q E
theorem pe_item (ho : PE X o to) (he : PE X e te) (M : Meth X.K C "__getitem__" f) (hf : PySem.W.fnIn X.K f = true) (F : FnOk X.prog X.w X.K X.mg X.base CX k f fd ps sp) (hr : Room (k + 1) X.A) (hb : Binds X.K fd ps []) (hx : Passes CX X E)
    (hsl : ∀ x i, subscripted e true (.ref x) i = runValue (.builtin "lifetime.subscript" ⟨[.ref x, i], []⟩)) : PE X (.Subscript o e pos) (tItem C sp E to te) := by
  refine ⟨fun pins s σ H Q I h => ?_⟩
  rw [eval_Subscript]
  refine wpAny_bind (thn (ho.run pins s σ H _ I h) fun u s1 ⟨x, H1, I1, rx, q1⟩ => wpAny_bind (wpAny_holding (thn (he.run pins s1 σ H1 _ I1 q1) fun v s2 ⟨y, H2, I2, ry, a, dx, fs, ex, ha, q2⟩ => wpAny_bind (wpAny_standAt ?_))))
  subst ex
  cases (show u = Value.ref a from rx)
  obtain ⟨mA, J, _⟩ := ins_get I2.hok ha
  obtain ⟨od, J, _⟩ := J.look
  obtain ⟨m, hF⟩ := I2.fr
  have rr : Vals [.ref a, y] [Value.ref a, v] := .cons rfl (.cons ry .nil)
  exact PySem.W.sub_K hF I2.ok.mod.kin J M.at_ hf M.fn (run_in1 F hr hb hx I2 rr q2) (hsl _ _)
end
/-- a special method of an own class -/
def GSp (P : Program) (w : World) (K : PySem.W.Frag) (mg : Str → Option Value) (base : Heap) (C : Str) (m : Str) (k : Nat) (ps : List Str) (L : Sp) : Prop := ∃ f fd, Meth K (He.ga K C) m f ∧ PySem.W.fnIn K f = true ∧ Binds K fd ps [] ∧ FnOk P w K mg base (CX P w) k f fd ps L
def eItem (C : Str) (sp : FSp) (mo me : EM D) : EM D := fun xq s n Q => mo xq s n fun d n1 => me xq s n1 fun y n2 => (∃ fs, d = .obj C fs) ∧ sp.run [d, y] n2 Q xq
section
variable {X : Cx} {E : XK} {O : List Nat} {e o : Expr} {mo me : EM D} {pos : Pos} {C : Str} {ps : List Str} {k k' : Nat} {sp : FSp}
theorem ve_item (tk : TK X E) (hl : ps.length = 2) (G : GSp X.prog X.w X.K X.mg X.base C "__getitem__" k ps (lift X.K 2 sp)) (hr : Room k' X.A) (hk : k + 1 ≤ k') (ho : VE X E O o mo) (he : VE X E O e me)
    (hsl : ∀ x i, subscripted e true (.ref x) i = runValue (.builtin "lifetime.subscript" ⟨[.ref x, i], []⟩) := by intro _ _; rfl) : VE X E O (.Subscript o e pos) (eItem C sp mo me) := by
  obtain ⟨f, fd, h1, h2, h3, h4⟩ := G
  obtain ⟨mn1, t1, p1, f1⟩ := ho
  obtain ⟨mn2, t2, p2, f2⟩ := he
  refine ⟨fun xq s n Q Q' hq w => mn1 _ _ _ _ _ (fun d n1 w => mn2 _ _ _ _ _ (fun y n2 w => ⟨w.1, sp.mn _ _ _ _ _ hq w.2⟩) w) w, _, pe_item p1 p2 h1 h2 h4 (DL.Room.le hr hk) h3 (passes_call tk fun _ _ _ _ h => h) hsl, fun aS A0 H0 σ H s n xq Q S L hm => ?_⟩
  refine f1 aS A0 H0 σ H s n xq _ S L (mn1 _ _ _ _ _ (fun d n1 q v H1 k1 st1 r1 => ?_) hm)
  refine f2 aS A0 H0 σ H1 s n1 xq _ (S.step k1 st1) L (mn2 _ _ _ _ _ (fun y n2 q2 u H2 k2 st2 r2 => ?_) q)
  obtain ⟨⟨fs, ed⟩, q2⟩ := q2
  subst ed
  have r3 := r1.kp k2 st1 AV.st
  have r4 := r3
  rw [Rep] at r4
  obtain ⟨a, dx, ys, ev, na, hq, rf⟩ := r4
  refine ⟨a, dx, ys, ev, hq, ?_⟩
  have kk := k1.trans k2
  exact (S.step kk st2).call L rfl (RepL.cons r3 (RepL.cons r2 RepL.nil)) (sp.mn _ _ _ _ _ (fun d n' w v H' kp st r => w v H' (kk.trans kp) st r) q2)
end
end DL
namespace DL
open PySem PySem.Spec PyProof.Rows L2
/-! set(d) of a dict -/
theorem size_go (n : Nat) : ∀ (f z : Nat), SetTable.sizeAbove.go n f z ≤ max z (2 * n)
  | 0, z => by rw [SetTable.sizeAbove.go]; omega
  | f + 1, z => by
    rw [SetTable.sizeAbove.go]
    split
    · have := size_go n f (z * 2); omega
    · omega
theorem size_small {n : Nat} (h : n ≤ 8000) : ¬ SetTable.sizeAbove n > sizeLine := by
  have := size_go n 64 8
  unfold SetTable.sizeAbove
  rw [sizeLine_eq]
  omega
theorem relaid_nil (t : SetTable) (n : Nat) : ∃ t', t.relaid (#[] : Array Int) n = some (t', #[]) ∧ t'.fits 0 = true := by
  refine ⟨{ mask := SetTable.sizeAbove n - 1, place := #[], dummies := #[], finger := t.finger, led := t.led, moves := t.movedTo (SetTable.sizeAbove n - 1), plain := t.plain }, ?_, rfl⟩
  unfold SetTable.relaid SetTable.laid SetTable.layClean
  simp
  intro a ha
  rw [Array.getElem?_replicate, if_pos ha]
  rfl
section
variable {P : Program} {w : World} {A : Around} {E : Value → Shared → Prop} {s : Shared} {K : Type} [DecidableEq K] {knd : PySem.KeyKind P w K}
/-- room in a new set -/
theorem room_new {a : Addr} {o : Obj} {ep : Nat} {t : SetTable} {n : Nat} {Q : Unit → Shared → Prop} (hn : n ≤ 4000) (ho : s.heap.get? a = some o) (hx : o.ExactSet) (hd : o.data = .set #[] ep t) (hf : t.fits 0 = true)
    (hQ : ∀ h', Heap.SameBut a s.heap h' → h'.SetOf knd a (fun _ => false) 0 → Q () { s with heap := h' }) : wpAny (model P w) A (setRoomFor a n) Q E s := by
  have none_in : ∀ k, (fun _ : K => false) k = true ↔ ∃ e ∈ (#[] : Array (Int × Value)).toList, knd.is k e.2 = true := fun k => by simp
  have no_el : ElemsOf knd (#[] : Array (Int × Value)).toList := fun e he => by simp at he
  have fit0 : t.fits (#[] : Array (Int × Value)).size = true := hf
  unfold setRoomFor
  refine wpAny_bind (wpAny_setState_of ho hd fit0 ?_)
  cases er : t.roomFor n with
  | none => exact wpAny_pure (hQ s.heap (Heap.SameBut.refl _ _) ⟨o, #[], ep, t, ho, hx, hd, no_el, none_in, by decide, hf, rfl⟩)
  | some m =>
    have hm : m = (t.place.size + n) * 2 := by
      unfold SetTable.roomFor at er
      split at er
      · exact (Option.some.inj er).symm
      · cases er
    have hp : t.place.size = 0 := by
      unfold SetTable.fits at hf
      rw [Bool.and_eq_true] at hf
      exact beq_iff_eq.mp hf.1
    obtain ⟨t', et, ft⟩ := relaid_nil t m
    dsimp only
    unfold setRelay
    refine wpAny_bind (wpAny_setState_of ho hd fit0 ?_)
    dsimp only
    refine wIfN (size_small (by omega)) ?_
    have e0 : (#[] : Array (Int × Value)).map (·.1) = #[] := by simp
    rw [e0, et]
    refine wpAny_bind (wpAny_pure (wpAny_storeSet_of ho hd ?_ (by show 0 ≤ sizeLine; exact Nat.zero_le _)))
    obtain ⟨_, z⟩ := SetOf_store (knd := knd) (S' := fun _ => false) (es' := (#[] : Array (Int × Value))) (t' := t') ho hx hd no_el none_in (by decide) ft
    exact hQ _ (Heap.SameBut.update ..) z
theorem set_same {h : Heap} {a : Addr} {S S' : K → Bool} {n n' : Nat} (z : h.SetOf knd a S n) (e : ∀ k, S' k = S k) (hn : n' = n) : h.SetOf knd a S' n' := by
  obtain ⟨o, es, ep, t, h1, h2, h3, h4, h5, h6, h7, h8⟩ := z
  exact ⟨o, es, ep, t, h1, h2, h3, h4, fun k => by rw [e k]; exact h5 k, h6, h7, by rw [hn]; exact h8⟩
abbrev keyIn (ks : List K) (k : K) : Bool := decide (k ∈ ks)
theorem keyIn_snoc (ks : List K) (k j : K) : keyIn (ks ++ [j]) k = (keyIn ks k || decide (k = j)) := by
  unfold keyIn
  rw [← Bool.decide_or, decide_eq_decide, List.mem_append, List.mem_singleton]
/-- the keys behind i, one after the other -/
theorem key_turns {S d : Addr} {kvs : List (K × Value)} {o : Obj} {es : Array DictEntry} {ep : Nat} {what : String} (sc : ∀ k v, knd.is k v = true → v.scannable = true) (hSd : S ≠ d) (hdat : o.data = .dict es ep) (hk : KeysOf knd es) (hp : Pairs knd es.toList kvs) (hnd : (kvs.map (·.1)).Nodup) (hl : kvs.length ≤ 4000) :
    ∀ (is : List Nat) (i : Nat) (s : Shared) (Q : PUnit → Shared → Prop), is = List.range' i (es.size - i) → s.heap.get? d = some o → s.heap.SetOf knd S (keyIn ((kvs.map (·.1)).take i)) i →
    (∀ h', h'.SetOf knd S (keyIn (kvs.map (·.1))) kvs.length → Heap.SameBut S s.heap h' → Q ⟨⟩ { s with heap := h' }) → i ≤ es.size →
    wpAny (model P w) A (forIn is PUnit.unit fun i (_ : PUnit) => (do
      let l ← dictEntries d
      match l[i]? with
      | some e => do
        let _ ← holding [e.key] (setAddHashed S e.key e.hash)
        let n ← dictEpoch d
        if (n != ep) = true then do
          (unsupported what : Sem PUnit)
          pure (ForInStep.yield PUnit.unit)
        else pure (ForInStep.yield PUnit.unit)
      | _ => do
        (unsupported "internal:set-from-dict" : Sem PUnit)
        pure (ForInStep.yield PUnit.unit) : Sem (ForInStep PUnit))) Q E s := by
  have len : kvs.length = es.size := by rw [← hp.length]; simp
  have lenk : (kvs.map (·.1)).length = es.size := by rw [List.length_map]; exact len
  intro is
  induction is with
  | nil =>
    intro i s Q hi ha hS hQ hle
    have : es.size - i = 0 := by
      have := congrArg List.length hi
      simpa using this.symm
    rw [List.forIn_nil]
    refine wpAny_pure (hQ s.heap ?_ (Heap.SameBut.refl _ _))
    rw [List.take_of_length_le (by omega)] at hS
    exact set_same hS (fun _ => rfl) (by omega)
  | cons j is ih =>
    intro i s Q hi ha hS hQ hle
    have hlt : i < es.size := by
      have := congrArg List.length hi
      simp at this
      omega
    have e1 : es.size - i = (es.size - (i + 1)) + 1 := by omega
    rw [e1, List.range'_succ] at hi
    injection hi with hj his
    subst hj
    have hm : j < kvs.length := by omega
    obtain ⟨hkey, hval⟩ := hp.get? (i := j) (e := es[j]) (by simp [hlt]) (List.getElem?_eq_getElem hm)
    obtain ⟨k', hkey', hhash⟩ := hk es[j] (Array.getElem_mem hlt)
    have hkk : k' = kvs[j].1 := knd.inj _ _ _ hkey' hkey
    have hnew : kvs[j].1 ∉ (kvs.map (·.1)).take j := by
      intro z
      obtain ⟨m, hm1, hm2⟩ := List.getElem_of_mem z
      rw [List.length_take] at hm1
      rw [List.getElem_take, List.getElem_map] at hm2
      refine List.pairwise_iff_getElem.mp hnd m j (by omega) (by omega) (by omega) ?_
      simp only [List.getElem_map]
      exact hm2
    have hsn : (kvs.map (·.1)).take (j + 1) = (kvs.map (·.1)).take j ++ [kvs[j].1] := by
      rw [List.take_add_one, List.getElem?_map, List.getElem?_eq_getElem hm]
      rfl
    rw [List.forIn_cons]
    refine wpAny_bind (wpAny_bind (wpAny_dictEntries ha hdat ?_))
    rw [Array.getElem?_eq_getElem hlt]
    dsimp only
    rw [hhash, hkk]
    refine wpAny_bind (wpAny_holding (wpAny_setAddHashed_of hkey (sc _ _ hkey) hS (by unfold scanBound; omega) fun h1 hs1 hS1 => ?_))
    have ha1 : h1.get? d = some o := (hs1.2 d (Ne.symm hSd)).trans ha
    refine wpAny_bind (wpAny_dictEpoch ha1 hdat ?_)
    rw [if_neg (by simp)]
    have nf : keyIn ((kvs.map (·.1)).take j) kvs[j].1 = false := decide_eq_false hnew
    refine wpAny_pure (ih (j + 1) _ Q his ha1 (set_same hS1 (fun k => ?_) ?_) (fun h' hS' hs' => hQ h' hS' (hs1.trans hs')) hlt)
    · rw [hsn, keyIn_snoc]
    · rw [nf]
      rfl
theorem sub_dict_set : isSubtype (.type "dict") (.type "set") = pure false := by rw [isSubtype_type]; kernel_rfl
theorem sub_dict_frozenset : isSubtype (.type "dict") (.type "frozenset") = pure false := by rw [isSubtype_type]; kernel_rfl
/-- a new set takes a dict's keys -/
theorem from_dict {S d : Addr} {o : Obj} {ep : Nat} {t : SetTable} {kvs : List (K × Value)} {what : String} {Q : Unit → Shared → Prop} (sc : ∀ k v, knd.is k v = true → v.scannable = true) (hSd : S ≠ d) (hs : (d == sysModules) = false) (ho : s.heap.get? S = some o) (hx : o.ExactSet) (hd : o.data = .set #[] ep t) (hf : t.fits 0 = true)
    (hm : s.heap.DictOf knd d kvs) (hl : kvs.length ≤ 4000) (hQ : ∀ h', h'.SetOf knd S (keyIn (kvs.map (·.1))) kvs.length → Heap.SameBut S s.heap h' → Q () { s with heap := h' }) :
    wpAny (model P w) A (Builtin.Frozenset.updateFrom what S (.ref d)) Q E s := by
  obtain ⟨od, es, epd, g, gc, gd, gk, gp, gn⟩ := id hm
  unfold Builtin.Frozenset.updateFrom Builtin.Frozenset.isAnySet
  have no_set : wpAny (model P w) A (isInstance (Value.ref d) (Value.type "set") <||> isInstance (Value.ref d) (Value.type "frozenset")) (fun b s1 => b = false ∧ s1 = s) E s := by
    unfold orM
    refine wpAny_bind (wpAny_mono (Q := fun b s1 => b = false ∧ s1 = s) (wpAny_isInstance hm.typeIs sub_dict_set ⟨rfl, rfl⟩) ?_ fun _ _ q => q)
    rintro b s1 ⟨rfl, rfl⟩
    exact wpAny_isInstance hm.typeIs sub_dict_frozenset ⟨rfl, rfl⟩
  refine wpAny_bind (wpAny_mono no_set ?_ fun _ _ q => q)
  rintro b s1 ⟨rfl, rfl⟩
  refine wIfN Bool.false_ne_true (wpAny_bind (wpAny_typeOf hm.typeIs ?_))
  refine wIfT rfl (wpAny_bind (wpAny_rule (wpAny_bind (wpAny_pure ?_))))
  refine wIfN (by rw [hs]; exact Bool.false_ne_true) ?_
  refine wpAny_bind (wpAny_dictEpoch g gd (wpAny_bind (wpAny_dictEntries g gd (wpAny_bind (room_new (knd := knd) ?_ ho hx hd hf fun h1 hs1 hS1 => ?_)))))
  · have : kvs.length = es.size := by rw [← gp.length]; simp
    omega
  have g1 : h1.get? d = some od := (hs1.2 d (Ne.symm hSd)).trans g
  refine wpAny_bind (wpAny_dictEntries g1 gd (wpAny_bind ?_))
  rw [Std.Legacy.Range.forIn_eq_forIn_range']
  simp only [Std.Legacy.Range.size, Nat.sub_zero, Nat.add_sub_cancel, Nat.div_one]
  refine key_turns sc hSd gd gk gp gn hl _ 0 _ _ (by simp) g1 (set_same hS1 (fun k => by simp [keyIn]) rfl) (fun h2 hS2 hs2 => wpAny_pure (hQ h2 hS2 (hs1.trans hs2))) (Nat.zero_le _)
end
end DL
namespace DL
open PySem PySem.Spec PyProof.Rows L2
section
variable {P : Program} {w : World} {A : Around} {E : Value → Shared → Prop} {s : Shared} {K : Type} [DecidableEq K] {knd : PySem.KeyKind P w K}
abbrev set0 (led : Bool) : Obj := { cls := .type "set", dict := none, data := .set #[] 0 (.fresh 0 0 led) }
/-- what set.__init__ does to a new set, given a dict -/
theorem init_dict {A : Around} {E : Value → Shared → Prop} {s : Shared} {S d : Addr} {led : Bool} {kvs : List (K × Value)} {Q : PySem.Fin → Shared → Prop} (sc : ∀ k v, knd.is k v = true → v.scannable = true) (hSd : S ≠ d) (hs : (d == sysModules) = false) (ho : s.heap.get? S = some (set0 led)) (hm : s.heap.DictOf knd d kvs) (hl : kvs.length ≤ 4000)
    (hQ : ∀ h', h'.SetOf knd S (keyIn (kvs.map (·.1))) kvs.length → Heap.SameBut S s.heap h' → Q (.done (.ret .none)) { s with heap := h' }) :
    wpAny (model P w) A (Builtin.«set.__init__» ⟨[.ref S, .ref d], []⟩) Q E s := by
  have fit : (SetTable.fresh 0 0 led).fits (#[] : Array (Int × Value)).size = true := rfl
  have ty : s.TypeIs (.ref S) "set" := ⟨_, ho, rfl⟩
  unfold Builtin.«set.__init__» noKeywords
  dsimp only
  refine wpAny_bind (wIfT rfl (wpAny_pure (wpAny_bind ?_)))
  unfold typeNameOfCut shownTypeOf
  refine wpAny_bind (wpAny_bind (wpAny_typeOf ty ?_))
  refine wIfN (fun z => by cases z) (wpAny_pure (wpAny_pure (wpAny_bind (wpAny_pure (wpAny_bind (wpAny_pure (wpAny_bind ?_)))))))
  unfold setUsed
  refine wpAny_bind (wpAny_setState_of ho rfl fit (wpAny_pure (wIfN (fun z => by cases z) (wpAny_bind ?_))))
  exact from_dict sc hSd hs ho ⟨rfl, rfl, rfl⟩ rfl rfl hm hl fun h' q1 q2 => wpAny_pure (hQ h' q1 q2)
/-- set(d) -/
theorem call_set_dict {d : Addr} {kvs : List (K × Value)} {Q : Value → Shared → Prop} (sc : ∀ k v, knd.is k v = true → v.scannable = true) (hs : (d == sysModules) = false) (hm : s.heap.DictOf knd d kvs) (hl : kvs.length ≤ 4000)
    (h : ∀ h', h'.SetOf knd s.heap.objs.size (keyIn (kvs.map (·.1))) kvs.length → (∀ b o, s.heap.get? b = some o → h'.get? b = some o) → Q (.ref s.heap.objs.size) { s with heap := h' }) :
    wpAny (model P w) A (call (.type "set") [.ref d]) Q E s := by
  have cs := PySem.F.called_set
  obtain ⟨c, tl, hmro⟩ := cs.mro
  have hmade := cs.made
  have hsub := cs.sub
  have hnt := cs.notType
  have hcc := cs.canCreate
  have hct := PySem.F.typeCall_set_1 (.ref d)
  refine wpAny_call (codeAny_of_tree ?_)
  show wpAny _ _ (callAny (.type "set") _) _ _ _
  refine wpAny_pure ⟨Code.quiet_builtin _ (by decide +kernel), codeAny_builtin PySem.F.entry_type_call ?_⟩
  rw [Around.under_plain (weight_type_call_type "set" [.ref d] []) rfl]
  repeat (any_goals (first | assumption | wp_step))
  refine codeAny_mono (code_set_new_1 (.ref d) (E := E) (Q₁ := fun v s1 => ∃ led : Bool, v = .ref s.heap.objs.size ∧ s1 = { s with heap := s.heap.push (set0 led) }) fun led => ⟨led, rfl, rfl⟩) fun r s1 hr => ?_
  cases r with
  | error e => exact hr
  | ok fl =>
    cases fl with
    | ret v =>
      obtain ⟨led, rfl, rfl⟩ := hr
      have hget : (s.heap.push (set0 led)).get? s.heap.objs.size = some (set0 led) := Heap.get?_push_size _ rfl
      have ty : Shared.TypeIs { s with heap := s.heap.push (set0 led) } (.ref s.heap.objs.size) "set" := ⟨_, hget, rfl⟩
      have hli := cs.init.lookup
      have hbi := cs.init.bind (.ref s.heap.objs.size)
      repeat (any_goals (first | assumption | wp_step))
      have hdS : s.heap.objs.size ≠ d := by
        obtain ⟨o, _, _, ho, _⟩ := hm
        exact Nat.ne_of_gt (Heap.lt_size ho)
      have hm1 : (s.heap.push (set0 led)).DictOf knd d kvs := by
        obtain ⟨o, es, ep, ho, rest⟩ := hm
        exact ⟨o, es, ep, Heap.get?_push_of_some _ ho, rest⟩
      refine codeAny_mono (codeAny_call_builtin (R := wants (fun r s2 => r = .none ∧ ∃ h', s2 = { s with heap := h' } ∧ h'.SetOf knd s.heap.objs.size (keyIn (kvs.map (·.1))) kvs.length ∧ ∀ b o, s.heap.get? b = some o → h'.get? b = some o) E) cs.init.plain PySem.F.entry_set_init (check_set_init_1 ty ?_)) fun r s2 hr => ?_
      · refine init_dict sc hdS hs hget hm1 hl fun h' q1 q2 => ⟨rfl, h', rfl, q1, fun b o hb => ?_⟩
        rw [q2.2 b (Nat.ne_of_lt (Heap.lt_size hb))]
        exact Heap.get?_push_of_some _ hb
      · cases r with
        | error e => exact hr
        | ok fl =>
          cases fl with
          | ret v =>
            obtain ⟨rfl, h', rfl, q1, q2⟩ := hr
            repeat (any_goals (first | assumption | wp_step))
            exact h _ q1 q2
          | _ => exact hr.elim
    | _ => exact hr.elim
end
end DL
namespace DL
open PySem PySem.Spec PyProof.Rows L2
theorem entry_set_ne : entryFor table "set.__ne__" = some Builtin.«frozenset.__ne__» := entryFor_alias (id' := "frozenset.__ne__") (by kernel_rfl) rfl (by decide +kernel) (by kernel_rfl)
theorem sub_set_frozenset : isSubtype (.type "set") (.type "frozenset") = pure false := by rw [isSubtype_type]; kernel_rfl
section
variable {P : Program} {w : World} {A : Around} {E : Value → Shared → Prop} {s : Shared} {K : Type} [DecidableEq K] {knd : PySem.KeyKind P w K}
/-- the entries, unseen -/
theorem unseen_of {p q : Addr} {es fs : Array (Int × Value)} {ep eq : Nat} {t u : SetTable} {o o' : Obj} {Q : List (Int × Value) → Shared → Prop} (hp : s.heap.get? p = some o) (dp : o.data = .set es ep t) (ft : t.fits es.size = true) (hq : s.heap.get? q = some o') (dq : o'.data = .set fs eq u) (fu : u.fits fs.size = true)
    (he : ElemsOf knd es.toList) (hf : ElemsOf knd fs.toList) (h : Q es.toList s) : wpAny (model P w) A (Builtin.Frozenset.walkUnseen p q) Q E s := by
  unfold Builtin.Frozenset.walkUnseen
  refine wpAny_bind (wpAny_setEntries_of hp dp ft (wpAny_bind (wpAny_setEntries_of hq dq fu (wpAny_bind ?_))))
  refine wpAny_forIn_list _ (fun l b s1 => s1 = s ∧ b = (none, ()) ∧ ∀ e ∈ l, e.2.scannable = true) _ ?_ ?_ _ _ ⟨rfl, rfl, fun e z => (List.mem_append.mp z).elim (fun z => (he e z).2) fun z => (hf e z).2⟩
  · rintro ⟨i, x⟩ l b s1 ⟨rfl, rfl, z⟩
    have hx : x.scannable = true := z (i, x) List.mem_cons_self
    have e : Builtin.Frozenset.quietEq x = pure true := by
      cases x <;> first | rfl | cases hx
    refine wpAny_bind (wpAny_of_eq e ?_)
    exact wIfN (fun z => by cases z) (wpAny_pure ⟨rfl, rfl, fun e y => z e (List.mem_cons_of_mem _ y)⟩)
  · rintro b s1 ⟨rfl, rfl, z⟩
    exact wpAny_pure h
theorem subset_ans {p q : Addr} {S T : K → Bool} {n m : Nat} {what : String} (hp : s.heap.SetOf knd p S n) (hq : s.heap.SetOf knd q T m) :
    wpAny (model P w) A (Builtin.Frozenset.subsetOf what p q) (fun b s1 => s1 = s ∧ (b = true ↔ n ≤ m ∧ ∀ k, S k = true → T k = true)) E s := by
  obtain ⟨o, es, ep, t, ho, hx, hd, hel, hmem, hb, hf, hn⟩ := id hp
  obtain ⟨o2, es2, ep2, t2, ho2, hx2, hd2, hel2, hmem2, hb2, hf2, hn2⟩ := id hq
  unfold Builtin.Frozenset.subsetOf Builtin.Frozenset.sizeOf
  refine wpAny_bind (wpAny_bind (wpAny_setEntries_of ho hd hf (wpAny_pure (wpAny_bind (wpAny_bind (wpAny_setEntries_of ho2 hd2 hf2 (wpAny_pure ?_)))))))
  split
  · rename_i z
    exact wpAny_pure ⟨rfl, fun y => (by cases y), fun y => (by omega)⟩
  · rename_i hle
    refine wpAny_bind (wpAny_setEpoch_of ho hd hf (wpAny_bind (unseen_of ho hd hf ho2 hd2 hf2 hel hel2 (wpAny_bind ?_))))
    have all : ∀ k, S k = true → ∃ e ∈ es.toList, knd.is k e.2 = true := fun k => (hmem k).mp
    refine wpAny_forIn_list _ (fun l b s1 => s1 = s ∧ b = (none, ()) ∧ (∀ e ∈ l, e ∈ es.toList) ∧ ∀ e ∈ es.toList, e ∈ l ∨ ∃ k, knd.is k e.2 = true ∧ T k = true) _ ?_ ?_ _ _ ⟨rfl, rfl, fun e z => z, fun e z => .inl z⟩
    · rintro ⟨i, x⟩ l b s1 ⟨rfl, rfl, z, y⟩
      obtain ⟨⟨k, hk, hh⟩, hsc⟩ := hel (i, x) (z (i, x) List.mem_cons_self)
      have hh : i = knd.hash k := hh
      subst hh
      refine wpAny_bind (wpAny_holding (wpAny_setFind_of hk hsc hq fun r hr => ?_))
      cases r with
      | none =>
        refine wIfT rfl (wpAny_pure (wpAny_pure ⟨rfl, fun z => (by cases z), fun z2 => ?_⟩))
        have a := z2.2 k ((hmem k).mpr ⟨_, z _ List.mem_cons_self, hk⟩)
        rw [← hr] at a
        cases a
      | some r =>
        refine wIfN (fun z => by cases z) (wpAny_bind ?_)
        unfold Builtin.Frozenset.unchanged
        refine wpAny_bind (wpAny_setEpoch_of ho hd hf (wIfN (by simp) (wpAny_pure (wpAny_pure ⟨rfl, rfl, fun e w => z e (List.mem_cons_of_mem _ w), fun e w => ?_⟩))))
        rcases y e w with w2 | w2
        · rcases List.mem_cons.mp w2 with w3 | w3
          · exact .inr ⟨k, by rw [w3]; exact hk, hr.symm⟩
          · exact .inl w3
        · exact .inr w2
    · rintro b s1 ⟨rfl, rfl, z, y⟩
      refine wpAny_pure ⟨rfl, fun _ => ⟨by omega, fun k hk => ?_⟩, fun _ => rfl⟩
      obtain ⟨e, he, hi⟩ := all k hk
      rcases y e he with w | ⟨k', w1, w2⟩
      · cases w
      · rw [knd.inj _ _ _ hi w1]
        exact w2
theorem ne_body {p q : Addr} {S T : K → Bool} {n m : Nat} {Q : PySem.Fin → Shared → Prop} (hp : s.heap.SetOf knd p S n) (hq : s.heap.SetOf knd q T m) (h : ∀ b, (b = false ↔ n = m ∧ ∀ k, S k = true → T k = true) → Q (.done (.ret (.bool b))) s) :
    wpAny (model P w) A (Builtin.«frozenset.__ne__» ⟨[.ref p, .ref q], []⟩) Q E s := by
  have ty := Heap.SetOf.typeIs hp
  have ty2 := Heap.SetOf.typeIs hq
  obtain ⟨o, es, ep, t, ho, hx, hd, hel, hmem, hb, hf, hn⟩ := id hp
  obtain ⟨o2, es2, ep2, t2, ho2, hx2, hd2, hel2, hmem2, hb2, hf2, hn2⟩ := id hq
  have any : wpAny (model P w) A (Builtin.Frozenset.isAnySet (.ref q)) (fun b s1 => b = true ∧ s1 = s) E s := by
    unfold Builtin.Frozenset.isAnySet orM
    refine wpAny_bind (wpAny_mono (Q := fun b s1 => b = true ∧ s1 = s) (wpAny_isInstance ty2 sub_set_self ⟨rfl, rfl⟩) ?_ fun _ _ q => q)
    rintro b s1 ⟨rfl, rfl⟩
    exact wpAny_pure ⟨rfl, rfl⟩
  have nofro : wpAny (model P w) A (isInstance (.ref p) (Value.type "frozenset") <&&> isInstance (.ref q) (Value.type "frozenset")) (fun b s1 => b = false ∧ s1 = s) E s := by
    unfold andM
    refine wpAny_bind (wpAny_mono (Q := fun b s1 => b = false ∧ s1 = s) (wpAny_isInstance ty sub_set_frozenset ⟨rfl, rfl⟩) ?_ fun _ _ q => q)
    rintro b s1 ⟨rfl, rfl⟩
    exact wpAny_pure ⟨rfl, rfl⟩
  refine wpAny_bind (wpAny_bind ?_)
  show wpAny _ _ (pure (Value.ref p, [Value.ref q])) _ _ _
  refine wpAny_pure (wpAny_pure ?_)
  dsimp only
  refine wpAny_bind (wpAny_mono any ?_ fun _ _ q => q)
  rintro b s1 ⟨rfl, rfl⟩
  refine wIfN (fun z => by cases z) (wpAny_bind (wpAny_pure (wpAny_bind (wpAny_pure ?_))))
  unfold Builtin.Frozenset.sizeOf
  refine wpAny_bind (wpAny_bind (wpAny_setEntries_of ho hd hf (wpAny_pure (wpAny_bind (wpAny_bind (wpAny_setEntries_of ho2 hd2 hf2 (wpAny_pure ?_)))))))
  refine wpAny_bind ?_
  split
  · rename_i z
    have z : es.size ≠ es2.size := by simpa using z
    exact wpAny_pure (wpAny_pure (h true ⟨fun y => (by cases y), fun y => (z (by omega)).elim⟩))
  · rename_i z
    have z : es.size = es2.size := by simpa using z
    refine wpAny_bind (wpAny_mono nofro ?_ fun _ _ q => q)
    rintro b s1 ⟨rfl, rfl⟩
    refine wIfN (fun z => by cases z) (wpAny_mono (subset_ans hp hq) ?_ fun _ _ q => q)
    rintro b s1 ⟨rfl, y⟩
    refine wpAny_pure (h (!b) ?_)
    cases b with
    | true => exact ⟨fun _ => ⟨by omega, (y.mp rfl).2⟩, fun _ => rfl⟩
    | false => exact ⟨fun z => (by cases z), fun z2 => (by have := y.mpr ⟨by omega, z2.2⟩; cases this)⟩
/-- S != T -/
theorem ne_sets {p q : Addr} {S T : K → Bool} {n m : Nat} {Q : Value → Shared → Prop} (hu : A.units < cLine) (hp : s.heap.SetOf knd p S n) (hq : s.heap.SetOf knd q T m) (h : ∀ b, (b = false ↔ n = m ∧ ∀ k, S k = true → T k = true) → Q (.bool b) s) :
    wpAny (model P w) A (compareOp .NotEq (.ref p) (.ref q)) Q E s := by
  show wpAny _ _ (richCompare .NotEq (.ref p) (.ref q)) _ _ _
  have c : wpAny (model P w) A (call (.builtin "set.__ne__") [.ref p, .ref q]) (fun v s' => v ≠ .notImplemented ∧ Q v s') E s :=
    wpAny_call_entry PySem.F.slot_set_ne (Heap.SetOf.typeIs hp) entry_set_ne (ne_body hp hq fun b hb => ⟨.bool b, rfl, fun z => (by cases z), h b hb⟩) (PySem.F.args_set_ne_2 _ _)
  exact wpAny_richCompare_same_room (Heap.SetOf.typeIs hp) (Heap.SetOf.typeIs hq) PySem.F.slot_set_ne c hu
end
end DL
namespace DL
open PySem PySem.Spec PyProof.Rows L2
variable [TabC]
theorem mix_scan {P : Program} {w : World} (k : Key) (v : Value) (h : (mixKind P w).is k v = true) : v.scannable = true := by
  cases v <;> first | rfl | (cases k <;> exact absurd h (by intro z; cases z))
theorem keyIn_iff {K : Type} [DecidableEq K] {ks : List K} {k : K} : keyIn ks k = true ↔ k ∈ ks := decide_eq_true_iff
/-- the set of the keys ks at a -/
def SetKO (P : Program) (w : World) (a : Addr) (ks : List Key) : HO := .ext fun h => h.SetOf (mixKind P w) a (keyIn ks) ks.length
section
variable {X : Cx}
theorem setKO_new {P : Program} {w : World} {H : Hp} {h : Heap} {a : Addr} {ks : List Key} (z : h.SetOf (mixKind P w) a (keyIn ks) ks.length) : ObjOk P w H h a (SetKO P w a ks) := by
  refine ⟨z, ?_, fun h1 h2 y k => ?_⟩
  · obtain ⟨o, _, _, _, ho, _⟩ := z
    exact ⟨o, ho⟩
  · obtain ⟨o, es, ep, t, ho, r⟩ := y
    exact ⟨o, es, ep, t, k o ho, r⟩
theorem setKO_get {pins : List (Addr × Obj)} {σ : L2.St} {H : Hp} {s : Shared} {a : Addr} {ks : List Key} (I : L2.Inv X pins σ H s) (ha : H a = some (SetKO X.prog X.w a ks)) : s.heap.SetOf (mixKind X.prog X.w) a (keyIn ks) ks.length := (I.hok a _ ha).1
/-- set(d) -/
def rSetD (P : Program) (w : World) : List V → Hp → VK → Prop := fun xs H Q => ∃ (a : Addr) (kvs : List (Key × V)), xs = [.ref a] ∧ Rd H a (.dK kvs) ∧ kvs.length ≤ 4000 ∧ ∀ p, H p = none → Q (.ref p) (upd H p (SetKO P w p (kvs.map (·.1))))
theorem cr_setD : CallR X (.type "set") (rSetD X.prog X.w) := by
  intro pins s σ H xs us Q I r h
  obtain ⟨a, kvs, rfl, ha, hl, q⟩ := h
  cases r with
  | cons r1 r2 =>
    cases r2
    cases r1
    obtain ⟨z, hd, vs, rel, dd⟩ := dk_rd I.hok ha
    refine call_set_dict mix_scan hd dd (by rw [← rel.length]; exact hl) fun h' q1 q2 => ?_
    rw [← rel.keys] at q1
    have q1 : h'.SetOf (mixKind X.prog X.w) s.heap.objs.size (keyIn (kvs.map (·.1))) (kvs.map (·.1)).length := set_same q1 (fun _ => rfl) (by rw [List.length_map, rel.length])
    exact ⟨.ref _, _, I.laid (t' := s.toks) q2 (Nat.le_refl _) (setKO_new q1), rfl, q _ (I.hok.fresh (Nat.le_refl _))⟩
/-- S != T -/
def rSetNe (P : Program) (w : World) : V → V → Hp → VK → Prop := fun x y H Q => ∃ (p q : Addr) (ks js : List Key), x = .ref p ∧ y = .ref q ∧ H p = some (SetKO P w p ks) ∧ H q = some (SetKO P w q js) ∧ ∀ b : Bool, (b = false ↔ ks.length = js.length ∧ ∀ k ∈ ks, k ∈ js) → Q (.bl b) H
theorem or_setNe (hu : X.A.units < cLine) : OpR X (compareOp .NotEq) (rSetNe X.prog X.w) := by
  intro pins s σ H x y v u Q I rx ry h
  obtain ⟨p, q, ks, js, rfl, rfl, hp, hq, z⟩ := h
  cases rx
  cases ry
  refine ne_sets hu (setKO_get I hp) (setKO_get I hq) fun b hb => ⟨.bl b, H, I, rfl, z b (hb.trans ?_)⟩
  refine and_congr Iff.rfl ⟨fun y k hk => ?_, fun y k hk => ?_⟩
  · exact keyIn_iff.mp (y k (keyIn_iff.mpr hk))
  · exact keyIn_iff.mpr (y k (keyIn_iff.mp hk))
end
def dKeysNe (kvs more : List (Key × D)) : Bool := !(kvs.length == more.length && kvs.all fun p => (lookK more p.1).isSome)
def eSetNe (ma mb : EM D) : EM Bool := fun xq s n Q => ma xq s n fun d1 n1 => ∃ kvs, d1 = .dic kvs ∧ kvs.length ≤ 4000 ∧ mb xq s n1 fun d2 n2 => ∃ more, d2 = .dic more ∧ more.length ≤ 4000 ∧ Q (dKeysNe kvs more) n2
theorem lookK_in {more : List (Key × D)} {k : Key} : (lookK more k).isSome = true ↔ k ∈ more.map (·.1) := by
  unfold lookK
  rw [Option.isSome_map, List.find?_isSome]
  constructor
  · rintro ⟨p, hp, e⟩
    exact List.mem_map.mpr ⟨p, hp, of_decide_eq_true e⟩
  · intro z
    obtain ⟨p, hp, e⟩ := List.mem_map.mp z
    exact ⟨p, hp, decide_eq_true e⟩
theorem keysNe_of {kvs more : List (Key × D)} {b : Bool} (h : b = false ↔ (kvs.map (·.1)).length = (more.map (·.1)).length ∧ ∀ k ∈ kvs.map (·.1), k ∈ more.map (·.1)) : b = dKeysNe kvs more := by
  have z : dKeysNe kvs more = false ↔ (kvs.map (·.1)).length = (more.map (·.1)).length ∧ ∀ k ∈ kvs.map (·.1), k ∈ more.map (·.1) := by
    unfold dKeysNe
    rw [Bool.not_eq_false', Bool.and_eq_true, beq_iff_eq, List.length_map, List.length_map, List.all_eq_true]
    refine and_congr Iff.rfl ⟨fun y k hk => ?_, fun y p hp => ?_⟩
    · obtain ⟨p, hp, e⟩ := List.mem_map.mp hk
      rw [← e]
      exact lookK_in.mp (y p hp)
    · exact lookK_in.mpr (y p.1 (List.mem_map.mpr ⟨p, hp, rfl⟩))
  rw [← z] at h
  cases b <;> cases e : dKeysNe kvs more <;> rw [e] at h <;> simp at h <;> rfl
section
variable {X : Cx} {E : XK} {O : List Nat} {a b : Expr} {ma mb : EM D} {pos p1 p2 q1 q2 : Pos}
theorem vt_setNe (hu : X.A.units < cLine) (hg : Gl X "set") (hm : X.mg "set" = none) (hv : bootBuiltins "set" = some (.type "set")) (ha : VE X E O a ma) (hb : VE X E O b mb)
    (h1 : starEach [a] X.env = (false, eval a X.env) :: starEach [] X.env := by rfl) (h2 : starEach [b] X.env = (false, eval b X.env) :: starEach [] X.env := by rfl)
    (hk : behindInMarks .NotEq (.Call (.Name "set" p2) [b] [] q2) = false := by rfl) :
    VT X E O (.Compare (.Call (.Name "set" p1) [a] [] q1) [.NotEq] [.Call (.Name "set" p2) [b] [] q2] pos) (eSetNe ma mb) := by
  obtain ⟨mna, ta, pa, fa⟩ := ha
  obtain ⟨mnb, tb, pb, fb⟩ := hb
  refine ⟨fun xq s n Q Q' hq w => mna _ _ _ _ _ (fun d n1 ⟨kvs, e1, e2, w⟩ => ⟨kvs, e1, e2, mnb _ _ _ _ _ (fun d n2 ⟨more, e3, e4, w⟩ => ⟨more, e3, e4, hq _ _ w⟩) w⟩) w, _,
    pt_cmpR (or_setNe hu) (pe_callTy cr_setD hg hm hv (pa_cons pa pa_nil h1) (by decide) (by decide) h1) (pe_callTy cr_setD hg hm hv (pa_cons pb pa_nil h2) (by decide) (by decide) h2) hk, fun aS A0 H0 σ H s n xq Q S L hm => ?_⟩
  refine fa aS A0 H0 σ H s n xq _ S L (mna _ _ _ _ _ (fun d1 n1 w1 v1 H1 k1 st1 r1 => ?_) hm)
  obtain ⟨kvs, e1, l1, w1⟩ := w1
  subst e1
  obtain ⟨x, ys, ex, nx, hx, rx⟩ := rep_dic r1
  subst ex
  refine ⟨x, ys, rfl, hx, by rw [rx.length]; exact l1, fun p hp => ?_⟩
  have S1 := S.step k1 st1
  have no : ∀ ps, SetKO X.prog X.w p (ys.map (·.1)) ≠ .tbl ps := fun ps z => by cases z
  have S2 := S1.step (KpS.upd (o := SetKO X.prog X.w p (ys.map (·.1))) hp) (S1.st.upd hp no)
  refine fb aS A0 H0 σ _ s n1 xq _ S2 L (mnb _ _ _ _ _ (fun d2 n2 w2 v2 H2 k2 st2 r2 => ?_) w1)
  obtain ⟨more, e2, l2, w2⟩ := w2
  subst e2
  obtain ⟨y, zs, ey, ny, hy, ry⟩ := rep_dic r2
  subst ey
  refine ⟨y, zs, rfl, hy, by rw [ry.length]; exact l2, fun q hq => ?_⟩
  have S3 := S2.step k2 st2
  have ps := S1.ne hp
  have hp2 : H2 p = some (SetKO X.prog X.w p (ys.map (·.1))) := k2 p _ upd_same ps
  have hpq : p ≠ q := fun z => by rw [← z, hp2] at hq; cases hq
  refine ⟨p, q, _, _, rfl, rfl, by rw [upd_ne hpq]; exact hp2, upd_same, fun b hb => ⟨b, rfl, ?_⟩⟩
  rw [rx.keys, ry.keys] at hb
  rw [keysNe_of hb]
  have no2 : ∀ ps, SetKO X.prog X.w q (zs.map (·.1)) ≠ .tbl ps := fun ps z => by cases z
  exact w2 _ (((k1.trans (KpS.upd hp)).trans k2).trans (KpS.upd hq)) (st2.upd hq no2)
end
end DL
namespace DL
open PySem PySem.Spec PyProof.Rows L2
variable [TabC]
/-! displays of dicts, sets of keys, items of own classes -/
section
variable {X : Cx} {E : XK} {O : List Nat} {a b c o : FM D}
def asDi : D → Res (List (Key × D))
  | .dic kvs => .ok kvs
  | _ => .bad
theorem wp_asDi {d : D} {xq : XQ} {n : Nat} {Q : List (Key × D) → Nat → Prop} (h : (asDi d).wp xq n Q) : ∃ kvs, d = .dic kvs ∧ Q kvs n := by
  unfold asDi at h
  split at h
  · exact ⟨_, rfl, h⟩
  · exact h.elim
def fDsp1 (a k v : FM D) : FM D := fun s => (a s).bind fun d => (asDi d).bind fun kvs => if kvs.length < LIM then (k s).bind fun kd => (ofO (keyD kd)).bind fun kk => (v s).bind fun x => .ok (.dic (putD kvs kk x)) else .bad
theorem le_dsp1 : ∀ xq s n Q, up (fDsp1 a b c) xq s n Q → eDsp1 (up a) (up b) (up c) xq s n Q := fun xq s n Q h => by
  unfold eDsp1 up
  refine wp_mono (fun d h => ?_) (wp_bind h)
  obtain ⟨kvs, e, h⟩ := wp_asDi (wp_bind h)
  obtain ⟨l, h⟩ := wp_dec h
  refine ⟨kvs, e, l, wp_mono (fun kd h => ?_) (wp_bind h)⟩
  obtain ⟨kk, e2, h⟩ := wp_ofO (wp_bind h)
  exact ⟨kk, e2, wp_bind h⟩
def fDsp2 (a b : FM D) : FM D := fun s => (a s).bind fun d => (asDi d).bind fun kvs => if kvs.length < LIM then (b s).bind fun d => (asDi d).bind fun more => if more.length < LIM then .ok (.dic (mergeD kvs more)) else .bad else .bad
theorem le_dsp2 : ∀ xq s n Q, up (fDsp2 a b) xq s n Q → eDsp2 (up a) (up b) xq s n Q := fun xq s n Q h => by
  unfold eDsp2 up
  refine wp_mono (fun d h => ?_) (wp_bind h)
  obtain ⟨kvs, e, h⟩ := wp_asDi (wp_bind h)
  obtain ⟨l, h⟩ := wp_dec h
  refine ⟨kvs, e, l, wp_mono (fun d h => ?_) (wp_bind h)⟩
  obtain ⟨more, e2, h⟩ := wp_asDi (wp_bind h)
  obtain ⟨l2, h⟩ := wp_dec h
  exact ⟨more, e2, l2, h⟩
def fpNil : FM (List (D × D)) := fun _ => .ok []
def fpCons (k v : FM D) (r : FM (List (D × D))) : FM (List (D × D)) := fun s => (k s).bind fun x => (v s).bind fun y => (r s).bind fun ps => .ok ((x, y) :: ps)
theorem loP {pos : Pos} {ks : List (Option Expr)} {vs : List Expr} {m : EM (List (D × D))} {f : FM (List (D × D))} (h : VPr X E O pos ks vs m) (le : ∀ xq s n Q, up f xq s n Q → m xq s n Q) : VPr X E O pos ks vs (up f) := by
  obtain ⟨mn, t, p, q⟩ := h
  exact ⟨mn_up, t, p, fun aS A0 H0 σ H s n xq Q S L hm => q aS A0 H0 σ H s n xq Q S L (le _ _ _ _ hm)⟩
theorem le_pnil : ∀ xq s n Q, up fpNil xq s n Q → prNil xq s n Q := fun _ _ _ _ h => h
theorem le_pcons {r : FM (List (D × D))} : ∀ xq s n Q, up (fpCons a b r) xq s n Q → prCons (up a) (up b) (up r) xq s n Q := fun xq s n Q h => by
  unfold prCons up
  exact wp_mono (fun d h => wp_mono (fun d h => wp_bind h) (wp_bind h)) (wp_bind h)
def fDisp (r : FM (List (D × D))) : FM D := fun s => (r s).bind fun ps => (ofO (kvD ps)).bind fun kvs => if kvs.length ≤ 15 then .ok (.dic (mergeD [] kvs)) else .bad
theorem le_disp {r : FM (List (D × D))} : ∀ xq s n Q, up (fDisp r) xq s n Q → eDisp (up r) xq s n Q := fun xq s n Q h => by
  unfold eDisp up
  refine wp_mono (fun d h => ?_) (wp_bind h)
  obtain ⟨kvs, e, h⟩ := wp_ofO (wp_bind h)
  obtain ⟨l, h⟩ := wp_dec h
  exact ⟨kvs, e, l, h⟩
def fSetNe (a b : FM D) : FM Bool := fun s => (a s).bind fun d => (asDi d).bind fun kvs => if kvs.length ≤ 4000 then (b s).bind fun d => (asDi d).bind fun more => if more.length ≤ 4000 then .ok (dKeysNe kvs more) else .bad else .bad
theorem le_setNe : ∀ xq s n Q, up (fSetNe a b) xq s n Q → eSetNe (up a) (up b) xq s n Q := fun xq s n Q h => by
  unfold eSetNe up
  refine wp_mono (fun d h => ?_) (wp_bind h)
  obtain ⟨kvs, e, h⟩ := wp_asDi (wp_bind h)
  obtain ⟨l, h⟩ := wp_dec h
  refine ⟨kvs, e, l, wp_mono (fun d h => ?_) (wp_bind h)⟩
  obtain ⟨more, e2, h⟩ := wp_asDi (wp_bind h)
  obtain ⟨l2, h⟩ := wp_dec h
  exact ⟨more, e2, l2, h⟩
def fItem (C : Str) (f : FFn) (o a : FM D) : FM D := fun s => (o s).bind fun d => (a s).bind fun y => match d with
  | .obj C' fs => if C' = C then f [d, y] else .bad
  | _ => .bad
theorem le_item {C : Str} {f : FFn} : ∀ xq s n Q, up (fItem C f o a) xq s n Q → eItem C (FSp.of f) (up o) (up a) xq s n Q := fun xq s n Q h => by
  unfold eItem up
  refine wp_mono (fun d h => wp_mono (fun y h => ?_) (wp_bind h)) (wp_bind h)
  cases d with
  | obj C' fs =>
    obtain ⟨e, h⟩ := wp_dec h
    exact ⟨⟨fs, by rw [e]⟩, h⟩
  | _ => exact h.elim
end
end DL
namespace DL
open PySem PySem.Spec PyProof.Rows L2
variable [TabC]
/-! raise X() -/
/-- an error class of the program without fields -/
def GE0 (K : PySem.W.Frag) (mg : Str → Option Value) (x : Str) : Prop := mg x = some (.ref (He.ga K x)) ∧ PySem.W.excIn K (He.ga K x) He.veBase "ValueError.__new__" = true ∧ PySem.W.keepIn K (.ref (He.ga K x)) = true ∧ PySem.W.subIn K (.ref (He.ga K x)) (.type "BaseException") = some true ∧ PySem.W.typeIn K (.ref (He.ga K x)) = some (.type "type")
def sRaise0 (C : Str) : SM := fun xq _ _ n => xq (C, []) n
section
variable {X : Cx} {E : XK} {O O' OL : List Nat} {pos p rpos : Pos} {x : Str}
theorem pmk_own0 {C : Addr} {bmB : List Value} {B newId initId : String} (F : ExcBaseFacts B newId initId bmB) (q : PySem.W.excIn X.K C bmB newId = true) (gC : X.mg x = some (.ref C)) (kC : PySem.W.keepIn X.K (.ref C) = true) (r : Raises X (.ref C)) (hg : Gl X x) (hdb : (x == ("__debug__" : Str)) = false) :
    PMk X (.Call (.Name x p) [] [] pos) (fun _ H Q => Q (.ref C) none H) := by
  intro pins s σ H Q I h
  refine wpAny_Call_Name_kw (ld_glob I hg gC ?_ hdb)
  refine PySem.W.callWith_K0 I.kIn kC ?_
  obtain ⟨bm, N, nm, qn, bs, hdct, sn, sub, ab, col, dd, k0, k1, k2, k3, k5, mN, hC, hN, hni, T⟩ := exc_obj I.kIn q
  exact wpAny_call_exc_subT F T hC hN hni (fun h' e hm => mk_of I hm r h (I.hok.gone hm.new)) (Nat.zero_le _)
theorem vs_raise0 (hc : X.calm = true) (tk : TK X E) (G : GE0 X.K X.mg x) (hg : Gl X x) (hdb : (x == ("__debug__" : Str)) = false := by decide) : VS X E O O' OL (.Raise (some (.Call (.Name x p) [] [] pos)) none rpos) (sRaise0 x) := by
  obtain ⟨h1, h2, h3, h4, h5⟩ := G
  refine ⟨_, ps_raise hc tk (pmk_own0 PySem.F.excBase_ValueError h2 h1 h3 (raises_own h4 h5) hg hdb), fun aS A0 H0 σ H s n xq de De S L kk h => ?_⟩
  exact L x [] n none H S.fr S.st rfl h
def fRaise0 (C : Str) : FS := fun _ => .ex (C, [])
theorem ls_raise0 {C : Str} : ∀ xq de s n, upS (fRaise0 C) xq de s n → sRaise0 C xq de s n := fun _ _ _ _ h => h
theorem Room.u0 {k : Nat} {A : Around} (h : Room k A) : A.units < cLine := by have := h.un; omega
end
end DL
namespace DL
open PySem PySem.Spec PyProof.Rows L2
variable [TabC]
/-! three targets -/
def sPar3 (i j l : Nat) (ma mb mc : EM D) : SM := fun xq de s n => ma xq s n fun d n1 => mb xq s n1 fun d' n2 => mc xq s n2 fun d'' n3 => de.nx (((s.set i (some d)).set j (some d')).set l (some d'')) n3
section
variable {X : Cx} {E : XK} {O OL : List Nat} {a b c : Expr} {ma mb mc : EM D} {pos : Pos} {i j l : Nat} {x y z : Str}
theorem vs_par3 {px py pz pt : Pos} {kt k2 pt2} (hi : i ∉ O) (hj : j ∉ O) (hl : l ∉ O) (hc : X.calm = true) (hN : X.N.Nodup) (hNi : X.N[i]? = some x) (hNj : X.N[j]? = some y) (hNl : X.N[l]? = some z) (hij : i ≠ j) (hil : i ≠ l) (hjl : j ≠ l)
    (hx : X.env.scope.names.lookup x = some .local) (hy : X.env.scope.names.lookup y = some .local) (hz : X.env.scope.names.lookup z = some .local)
    (ha : VE X E O a ma) (hb : VE X E O b mb) (hcc : VE X E O c mc) (hw : swappedStores [.Tuple [.Name x px, .Name y py, .Name z pz] kt pt] (.Tuple [a, b, c] k2 pt2) X.env = pure (some [x, y, z]))
    (hs : swapsWithSole [.Tuple [.Name x px, .Name y py, .Name z pz] kt pt] (.Tuple [a, b, c] k2 pt2) pos.line X.env = pure false := by rfl) (hs1 : starEach [a, b, c] X.env = (false, eval a X.env) :: starEach [b, c] X.env := by rfl) (hs2 : starEach [b, c] X.env = (false, eval b X.env) :: starEach [c] X.env := by rfl) (hs3 : starEach [c] X.env = (false, eval c X.env) :: starEach [] X.env := by rfl) :
    VS X E O O OL (.Assign [.Tuple [.Name x px, .Name y py, .Name z pz] kt pt] (.Tuple [a, b, c] k2 pt2) pos) (sPar3 i j l ma mb mc) := by
  obtain ⟨mna, ta, pa, fa⟩ := ha
  obtain ⟨mnb, tb, pb, fb⟩ := hb
  obtain ⟨mnc, tc, pcc, fc⟩ := hcc
  refine ⟨_, ps_par3 hc hN hNi hNj hNl hij hil hjl hx hy hz (pa_cons pa (pa_cons pb (pa_cons pcc pa_nil hs3) hs2) hs1) hw hs, fun aS A0 H0 σ H s n xq de De S L k h => ?_⟩
  refine fa aS A0 H0 σ H s n xq _ S L (mna _ _ _ _ _ (fun d1 n1 q v1 H1 k1 st1 r1 => ?_) h)
  refine fb aS A0 H0 σ H1 s n1 xq _ (S.step k1 st1) L (mnb _ _ _ _ _ (fun d2 n2 q2 v2 H2 k2 st2 r2 => ?_) q)
  refine fc aS A0 H0 σ H2 s n2 xq _ (S.step (k1.trans k2) st2) L (mnc _ _ _ _ _ (fun d3 n3 q3 v3 H3 k3 st3 r3 => ?_) q2)
  have S1 := (S.step ((k1.trans k2).trans k3) st3).set hi ((r1.kp k2 st1 AV.st).kp k3 st2 AV.st)
  have S2 := S1.set hj (by rw [AV.set hi]; exact r2.kp k3 st2 AV.st)
  exact ⟨v1, v2, v3, rfl, k.nx _ _ _ _ (S2.set hl (by rw [AV.set hj, AV.set hi]; exact r3)) q3⟩
def fPar3 (i j l : Nat) (a b c : FM D) : FS := fun s => (a s).so fun d => (b s).so fun d' => (c s).so fun d'' => .nx (((s.set i (some d)).set j (some d')).set l (some d''))
theorem ls_par3 {i j l : Nat} {a b c : FM D} : ∀ xq de s n, upS (fPar3 i j l a b c) xq de s n → sPar3 i j l (up a) (up b) (up c) xq de s n := fun xq de s n h => by
  unfold sPar3 up
  exact wp_mono (fun d h => wp_mono (fun d h => wp_so h) (wp_so h)) (wp_so h)
end
end DL
namespace DL
open PySem PySem.Spec PyProof.Rows L2
variable [TabC]
/-! ### plain steps -/
abbrev sOk (x : Str) : Prop := PyData.strOk x = true
theorem okD_str {x : Str} (h : sOk x) : okD (.str x) = true := by
  unfold okD SeqAt.shaped
  simp only [toPD, PyData.canLay0, PyData.depth]
  rw [h]
  rfl
theorem okD_int (i : Int) : okD (.int i) = true := by
  unfold okD SeqAt.shaped
  simp only [toPD, PyData.canLay0, PyData.depth]
  rfl
theorem okD_bl (b : Bool) : okD (.bl b) = true := by
  unfold okD SeqAt.shaped
  simp only [toPD, PyData.canLay0, PyData.depth]
  rfl
theorem pyEq_str (x y : Str) : pyEq (.str x) (.str y) = (x == y) := by
  unfold pyEq
  simp only [toPD, PyData.eqv]
theorem pyEq_int (x y : Int) : pyEq (.int x) (.int y) = (x == y) := by
  unfold pyEq
  simp only [toPD, PyData.eqv]
theorem dEq_str {x y : Str} (hx : sOk x) (hy : sOk y) : dEq (.str x) (.str y) = some (.bl (x == y)) := by
  unfold dEq
  rw [okD_str hx, okD_str hy, pyEq_str]
  rfl
theorem dNe_str {x y : Str} (hx : sOk x) (hy : sOk y) : dNe (.str x) (.str y) = some (.bl (!(x == y))) := by
  unfold dNe
  rw [okD_str hx, okD_str hy, pyEq_str]
  rfl
theorem dEq_int {x y : Int} : dEq (.int x) (.int y) = some (.bl (x == y)) := by
  unfold dEq
  rw [okD_int, okD_int, pyEq_int]
  rfl
theorem dNe_int {x y : Int} : dNe (.int x) (.int y) = some (.bl (!(x == y))) := by
  unfold dNe
  rw [okD_int, okD_int, pyEq_int]
  rfl
theorem lay_all : ∀ xs : List D, (∀ x ∈ xs, (toPD x).canLay0 = true) → PyData.canLayAll0 (toPDs xs) = true
  | [], _ => by simp only [toPDs, PyData.canLayAll0]
  | x :: xs, h => by
    simp only [toPDs, PyData.canLayAll0, Bool.and_eq_true]
    exact ⟨h x List.mem_cons_self, lay_all xs fun y hy => h y (List.mem_cons_of_mem _ hy)⟩
theorem depth_all {k : Nat} : ∀ xs : List D, (∀ x ∈ xs, (toPD x).depth ≤ k) → PyData.depthAll (toPDs xs) ≤ k
  | [], _ => by simp only [toPDs, PyData.depthAll]; omega
  | x :: xs, h => by
    simp only [toPDs, PyData.depthAll]
    have h1 := h x List.mem_cons_self
    have h2 := depth_all xs fun y hy => h y (List.mem_cons_of_mem _ hy)
    omega
/-- what can be compared, so deep -/
structure OkN (k : Nat) (d : D) : Prop where
  lay : (toPD d).canLay0 = true
  dep : (toPD d).depth ≤ k
theorem OkN.ok {k : Nat} {d : D} (h : OkN k d) (hk : k ≤ 64) : okD d = true := by
  unfold okD SeqAt.shaped
  rw [h.lay, decide_eq_true (by have := h.dep; omega)]
  rfl
theorem OkN.str {k : Nat} {x : Str} (h : sOk x) : OkN k (.str x) := ⟨by simp only [toPD, PyData.canLay0]; exact h, by simp only [toPD, PyData.depth]; omega⟩
theorem OkN.int {k : Nat} {i : Int} : OkN k (.int i) := ⟨by simp only [toPD, PyData.canLay0], by simp only [toPD, PyData.depth]; omega⟩
theorem OkN.bl {k : Nat} {i : Bool} : OkN k (.bl i) := ⟨by simp only [toPD, PyData.canLay0], by simp only [toPD, PyData.depth]; omega⟩
theorem OkN.non {k : Nat} : OkN k .non := ⟨by simp only [toPD, PyData.canLay0], by simp only [toPD, PyData.depth]; omega⟩
theorem OkN.tup {k : Nat} {xs : List D} (h : ∀ x ∈ xs, OkN k x) : OkN (k + 1) (.tup xs) := ⟨by simp only [toPD, PyData.canLay0]; exact lay_all xs fun x hx => (h x hx).lay, by
  simp only [toPD, PyData.depth]
  exact Nat.succ_le_succ (depth_all xs fun x hx => (h x hx).dep)⟩
theorem OkN.lst {k : Nat} {xs : List D} (h : ∀ x ∈ xs, OkN k x) : OkN (k + 1) (.lst xs) := ⟨by simp only [toPD, PyData.canLay0]; exact lay_all xs fun x hx => (h x hx).lay, by
  simp only [toPD, PyData.depth]
  exact Nat.succ_le_succ (depth_all xs fun x hx => (h x hx).dep)⟩
theorem dEq_ok {a b : D} (ha : okD a = true) (hb : okD b = true) : dEq a b = some (.bl (pyEq a b)) := by
  unfold dEq
  rw [ha, hb]
  rfl
theorem dNe_ok {a b : D} (ha : okD a = true) (hb : okD b = true) : dNe a b = some (.bl (!pyEq a b)) := by
  unfold dNe
  rw [ha, hb]
  rfl
theorem ok_strs {xs : List Str} (h : ∀ x ∈ xs, sOk x) : okD (.lst (xs.map .str)) = true := (OkN.lst (k := 0) fun d hd => by
  obtain ⟨x, hx, rfl⟩ := List.mem_map.mp hd
  exact .str (h x hx)).ok (by decide)
theorem any_strs {x : Str} : ∀ (xs : List Str), ((xs.map D.str).any fun y => pyEq y (.str x)) = decide (x ∈ xs)
  | [] => rfl
  | y :: ys => by
    rw [List.map_cons, List.any_cons, any_strs ys, pyEq_str]
    by_cases e : y = x
    · subst e; simp
    · have e2 : ¬ x = y := fun z => e z.symm
      simp [e, e2]
theorem dInB_strs {x : Str} {xs : List Str} (hx : sOk x) (h : ∀ x ∈ xs, sOk x) : dInB (.str x) (.lst (xs.map .str)) = some (decide (x ∈ xs)) := by
  show (if (okD (.str x) && okD (.lst (xs.map .str))) = true then some ((xs.map D.str).any fun y => pyEq y (.str x)) else none) = _
  rw [okD_str hx, ok_strs h, any_strs]
  rfl
theorem dIn_strs {x : Str} {xs : List Str} (hx : sOk x) (h : ∀ x ∈ xs, sOk x) : dIn (.str x) (.lst (xs.map .str)) = some (.bl (decide (x ∈ xs))) := by
  unfold dIn
  rw [dInB_strs hx h]
  rfl
theorem dNotIn_strs {x : Str} {xs : List Str} (hx : sOk x) (h : ∀ x ∈ xs, sOk x) : dNotIn (.str x) (.lst (xs.map .str)) = some (.bl (!decide (x ∈ xs))) := by
  unfold dNotIn
  rw [dInB_strs hx h]
  rfl
/-! lists, by places -/
theorem atI_nat {α : Type} (xs : List α) (k : Nat) : L2.atI xs (k : Int) = xs[k]? := by
  unfold L2.atI ixN
  by_cases h : k < xs.length
  · rw [if_pos (by omega), if_pos (by omega)]
    simp
  · rw [if_pos (by omega), if_neg (by omega)]
    simp at h
    simp [h]
theorem dIdx_lst {xs : List D} {k : Nat} : dIdx (.lst xs) (.int (k : Int)) = xs[k]? := atI_nat xs k
theorem dIdx_tup {xs : List D} {k : Nat} : dIdx (.tup xs) (.int (k : Int)) = xs[k]? := atI_nat xs k
/-! dicts of texts, typed: a list of pairs and a function to data -/
def mapD {α : Type} (f : α → D) (l : List (Str × α)) : List (Key × D) := l.map fun p => (.inr p.1, f p.2)
theorem lookK_map {α : Type} (f : α → D) (x : Str) : ∀ l : List (Str × α), lookK (mapD f l) (.inr x) = (l.lookup x).map f
  | [] => rfl
  | (y, a) :: l => by
    have ih := lookK_map f x l
    unfold lookK mapD at ih ⊢
    rw [List.map_cons, List.find?_cons, List.lookup_cons]
    by_cases e : x = y
    · subst e
      simp
    · have e1 : ¬ (Sum.inr y : Key) = Sum.inr x := fun z => e (Sum.inr.inj z).symm
      have e2 : (x == y) = false := by simpa using e
      rw [e2]
      simp only [e1, decide_false]
      exact ih
theorem dIdx_map {α : Type} {f : α → D} {x : Str} {l : List (Str × α)} : dIdx (.dic (mapD f l)) (.str x) = (l.lookup x).map f := lookK_map f x l
theorem dInB_map {α : Type} {f : α → D} {x : Str} {l : List (Str × α)} : dInB (.str x) (.dic (mapD f l)) = some (l.lookup x).isSome := by
  show some (lookK (mapD f l) (.inr x)).isSome = _
  rw [lookK_map]
  cases l.lookup x <;> rfl
theorem dIn_map {α : Type} {f : α → D} {x : Str} {l : List (Str × α)} : dIn (.str x) (.dic (mapD f l)) = some (.bl (l.lookup x).isSome) := by
  unfold dIn
  rw [dInB_map]
  rfl
theorem dNotIn_map {α : Type} {f : α → D} {x : Str} {l : List (Str × α)} : dNotIn (.str x) (.dic (mapD f l)) = some (.bl (!(l.lookup x).isSome)) := by
  unfold dNotIn
  rw [dInB_map]
  rfl
theorem keys_map {α : Type} (f : α → D) (l : List (Str × α)) : keysD (mapD f l) = (l.map (·.1)).map .str := by
  unfold keysD mapD
  rw [List.map_map, List.map_map, List.map_map]
  rfl
theorem dList_map {α : Type} (f : α → D) (l : List (Str × α)) : dList [.dic (mapD f l)] = some (.lst ((l.map (·.1)).map .str)) := by
  show some (D.lst (keysD (mapD f l))) = _
  rw [keys_map]
theorem items_map {α : Type} (f : α → D) (l : List (Str × α)) : itemsD (mapD f l) = l.map fun p => .tup [.str p.1, f p.2] := by
  unfold itemsD mapD
  rw [List.map_map]
  rfl
theorem vals_map {α : Type} (f : α → D) (l : List (Str × α)) : valsD (mapD f l) = l.map fun p => f p.2 := by
  unfold valsD mapD
  rw [List.map_map]
  rfl
theorem look_some {α : Type} {x : Str} {a : α} : ∀ {l : List (Str × α)}, l.lookup x = some a → (x, a) ∈ l
  | (y, b) :: l, h => by
    rw [List.lookup_cons] at h
    by_cases e : x = y
    · subst e
      simp at h
      subst h
      exact List.mem_cons_self
    · have e2 : (x == y) = false := by simpa using e
      rw [e2] at h
      exact List.mem_cons_of_mem _ (look_some h)
theorem look_of {α : Type} {x : Str} {a : α} : ∀ {l : List (Str × α)}, (l.map (·.1)).Nodup → (x, a) ∈ l → l.lookup x = some a
  | (y, b) :: l, hn, h => by
    rw [List.map_cons, List.nodup_cons] at hn
    rw [List.lookup_cons]
    rcases List.mem_cons.mp h with e | hm
    · cases e
      simp
    · have e : x ≠ y := fun z => hn.1 (by subst z; exact List.mem_map.mpr ⟨(x, a), hm, rfl⟩)
      have e2 : (x == y) = false := by simpa using e
      rw [e2]
      exact look_of hn.2 hm
theorem look_none {α : Type} {x : Str} : ∀ {l : List (Str × α)}, x ∉ l.map (·.1) → l.lookup x = none
  | [], _ => rfl
  | (y, b) :: l, h => by
    rw [List.map_cons, List.mem_cons, not_or] at h
    rw [List.lookup_cons]
    have e2 : (x == y) = false := by simpa using h.1
    rw [e2]
    exact look_none h.2
theorem look_mem {α : Type} {x : Str} {l : List (Str × α)} (h : x ∈ l.map (·.1)) : ∃ a, l.lookup x = some a := by
  induction l with
  | nil => cases h
  | cons p l ih =>
    obtain ⟨y, b⟩ := p
    rw [List.lookup_cons]
    by_cases e : x = y
    · subst e
      exact ⟨b, by simp⟩
    · have e2 : (x == y) = false := by simpa using e
      rw [e2]
      rcases List.mem_cons.mp h with z | z
      · exact absurd z e
      · exact ih z
theorem look_isSome {α : Type} {x : Str} {l : List (Str × α)} : (l.lookup x).isSome = decide (x ∈ l.map (·.1)) := by
  by_cases h : x ∈ l.map (·.1)
  · obtain ⟨a, e⟩ := look_mem h
    rw [e, decide_eq_true h]
    rfl
  · rw [look_none h, decide_eq_false h]
    rfl
theorem put_new {α : Type} {f : α → D} {l : List (Str × α)} {x : Str} {a : α} (h : x ∉ l.map (·.1)) : putD (mapD f l) (.inr x) (f a) = mapD f (l ++ [(x, a)]) := by
  unfold putD
  rw [lookK_map, look_none h]
  show (mapD f l).concat _ = _
  unfold mapD
  rw [List.concat_eq_append, List.map_append]
  rfl
/-! steps -/
theorem runB_rt {N : List Str} {b : FS} {ds : List D} {d : D} (h : b (startD N ds) = .rt d) : runB N b ds = .ok d := by
  unfold runB
  rw [h]
theorem runB_nx {N : List Str} {b : FS} {ds : List D} {s : Ev} (h : b (startD N ds) = .nx s) : runB N b ds = .ok .non := by
  unfold runB
  rw [h]
theorem runB_ex {N : List Str} {b : FS} {ds : List D} {x : XD} (h : b (startD N ds) = .ex x) : runB N b ds = .ex x := by
  unfold runB
  rw [h]
theorem runI_nx {C : Str} {N : List Str} {b : FS} {ds : List D} {s : Ev} {d : D} (h : b (startD N (.obj C [] :: ds)) = .nx s) (h2 : objAt C s = .ok d) : runI C N b ds = .ok d := by
  unfold runI
  rw [h]
  exact h2
theorem runI_ex {C : Str} {N : List Str} {b : FS} {ds : List D} {x : XD} (h : b (startD N (.obj C [] :: ds)) = .ex x) : runI C N b ds = .ex x := by
  unfold runI
  rw [h]
section
variable {s s' : Ev} {f g : FS} {o : SO} {a b c : FM D} {t u : FM Bool} {l : FM (List D)} {d d' : D}
theorem seqN (h : f s = .nx s') (h2 : g s' = o) : fSeq f g s = o := by
  unfold fSeq
  rw [h]
  exact h2
theorem seqR (h : f s = .rt d) : fSeq f g s = .rt d := by
  unfold fSeq
  rw [h]
theorem seqX {x : XD} (h : f s = .ex x) : fSeq f g s = .ex x := by
  unfold fSeq
  rw [h]
theorem retE (h : a s = .ok d) : fRet a s = .rt d := by
  unfold fRet
  rw [h]
  rfl
theorem setE {i : Nat} (h : a s = .ok d) : fSet i a s = .nx (s.set i (some d)) := by
  unfold fSet
  rw [h]
  rfl
theorem setFE {i : Nat} (hi : i < s.length) (h : a s = .ok d) : fSetF i a s = .nx (s.set i (some d)) := by
  unfold fSetF
  rw [h, if_pos hi]
  rfl
theorem dropE (h : a s = .ok d) : fDrop a s = .nx s := by
  unfold fDrop
  rw [h]
  rfl
theorem ifsT (h : t s = .ok true) (h2 : f s = o) : fIfS t f g s = o := by
  unfold fIfS
  rw [h]
  exact h2
theorem ifsF (h : t s = .ok false) (h2 : g s = o) : fIfS t f g s = o := by
  unfold fIfS
  rw [h]
  exact h2
theorem forE {i : FM (List D)} {g : FG} {ds : List D} (h : i s = .ok ds) (h2 : fForL g f ds s = o) : fFor i g f s = o := by
  unfold fFor
  rw [h]
  exact h2
theorem forDE {p : Ev → Option D} {k : List (Key × D) → List D} {g : FG} {kvs : List (Key × D)} (h : p s = some (.dic kvs)) (h2 : fForL g f (k kvs) s = o) : fForD p k g f s = o := by
  unfold fForD
  rw [h]
  exact h2
theorem asgE {g : FG} (h : a s = .ok d) (h2 : g d s = some s') : fAsg a g s = .nx s' := by
  unfold fAsg
  rw [h]
  show (ofO (g d s)).so .nx = _
  rw [h2]
  rfl
theorem parE {i j : Nat} (h : a s = .ok d) (h2 : b s = .ok d') : fPar i j a b s = .nx ((s.set i (some d)).set j (some d')) := by
  unfold fPar
  rw [h, h2]
  rfl
theorem parFFE {i j : Nat} (hi : i < s.length) (hj : j < s.length) (h : a s = .ok d) (h2 : b s = .ok d') : fParFF i j a b s = .nx ((s.set i (some d)).set j (some d')) := by
  unfold fParFF
  rw [h, h2, if_pos ⟨hi, hj⟩]
  rfl
theorem parEFE {i j : Nat} (hj : j < s.length) (h : a s = .ok d) (h2 : b s = .ok d') : fParEF i j a b s = .nx ((s.set i (some d)).set j (some d')) := by
  unfold fParEF
  rw [h, h2, if_pos hj]
  rfl
theorem appE {i : Nat} {ds : List D} (h : s[i]? = some (some (.lst ds))) (h2 : a s = .ok d) (hl : ds.length < LIM) : fApp i a s = .nx (s.set i (some (.lst (ds ++ [d])))) := by
  unfold fApp lstAt
  rw [h]
  show (a s).so _ = _
  rw [h2]
  show (if ds.length < LIM then _ else _) = _
  rw [if_pos hl]
theorem extE {i : Nat} {ds es : List D} (h : s[i]? = some (some (.lst ds))) (h2 : a s = .ok (.lst es)) (hl : ds.length + es.length ≤ LIM) : fExt i a s = .nx (s.set i (some (.lst (ds ++ es)))) := by
  unfold fExt lstAt
  rw [h]
  show (a s).so _ = _
  rw [h2]
  show (if ds.length + es.length ≤ LIM then _ else _) = _
  rw [if_pos hl]
theorem insE {i k : Nat} {ds : List D} (h : s[i]? = some (some (.lst ds))) (h2 : l s = .ok [.int k, d]) (hl : ds.length < LIM) (hk : k ≤ LIM) : fIns i l s = .nx (s.set i (some (.lst (ds.take k ++ [d] ++ ds.drop k)))) := by
  unfold fIns lstAt
  rw [h]
  show (l s).so _ = _
  rw [h2]
  have e : asIns [.int (k : Int), d] = some (k, d) := by simp [asIns]
  simp only [Res.so, e, ofO]
  rw [if_pos ⟨hl, hk⟩]
theorem dputE {i : Nat} {kvs : List (Key × D)} {kk : Key} (h : a s = .ok d) (h2 : b s = .ok d') (hk : keyD d' = some kk) (h3 : s[i]? = some (some (.dic kvs))) (hl : kvs.length < LIM) : fDput i b a s = .nx (s.set i (some (.dic (putD kvs kk d)))) := by
  unfold fDput
  rw [h]
  show (b s).so _ = _
  rw [h2]
  show (ofO (keyD d')).so _ = _
  rw [hk]
  show dicAt s i _ = _
  unfold dicAt
  rw [h3]
  show (if kvs.length < LIM then _ else _) = _
  rw [if_pos hl]
theorem fldSE {i : Nat} {C g : Str} {fs : List (Str × D)} (h : a s = .ok d) (h2 : s[i]? = some (some (.obj C fs))) (hl : fs.length < 1000) : fFldS i C g a s = .nx (s.set i (some (.obj C (putFD g d fs)))) := by
  unfold fFldS
  rw [h]
  show (match s[i]? with | some (some (.obj C' fs)) => _ | _ => _) = _
  rw [h2]
  show (if C = C ∧ fs.length < 1000 then _ else _) = _
  rw [if_pos ⟨rfl, hl⟩]
/-! expressions -/
theorem binE {f : D → D → Option D} {x y : D} (h : a s = .ok x) (h2 : b s = .ok y) (h3 : f x y = some d) : fBin f a b s = .ok d := by
  unfold fBin
  rw [h, h2]
  show ofO (f x y) = _
  rw [h3]
  rfl
theorem binTE {f : D → D → Option D} {x y : D} {k : Bool} (h : a s = .ok x) (h2 : b s = .ok y) (h3 : f x y = some (.bl k)) : fBinT f a b s = .ok k := by
  unfold fBinT
  rw [h, h2]
  show ofB (f x y) = _
  rw [h3]
  rfl
theorem bltE {f : List D → Option D} {xs : List D} (h : l s = .ok xs) (h3 : f xs = some d) : fBlt f l s = .ok d := by
  unfold fBlt
  rw [h]
  show ofO (f xs) = _
  rw [h3]
  rfl
theorem consE {ds : List D} (h : a s = .ok d) (h2 : l s = .ok ds) : fCons a l s = .ok (d :: ds) := by
  unfold fCons
  rw [h, h2]
  rfl
theorem tupE {ds : List D} (h : l s = .ok ds) (hl : ds.length ≤ 1000) : fTup l s = .ok (.tup ds) := by
  unfold fTup
  rw [h]
  show (if ds.length ≤ 1000 then _ else _) = _
  rw [if_pos hl]
theorem lstE {ds : List D} (h : l s = .ok ds) (hl : ds.length ≤ 1000) : fLst l s = .ok (.lst ds) := by
  unfold fLst
  rw [h]
  show (if ds.length ≤ 1000 then _ else _) = _
  rw [if_pos hl]
theorem valE {k : Bool} (h : a s = .ok (.bl k)) : fVal a s = .ok k := by
  unfold fVal
  rw [h]
  rfl
theorem notTE {k : Bool} (h : t s = .ok k) : fNotT t s = .ok (!k) := by
  unfold fNotT
  rw [h]
  rfl
theorem notE {k : Bool} (h : a s = .ok (.bl k)) : fNot a s = .ok (.bl (!k)) := by
  unfold fNot
  rw [h]
  rfl
theorem andT {r : Res D} (h : a s = .ok (.bl true)) (h2 : b s = r) : fAnd a b s = r := by
  unfold fAnd
  rw [h]
  exact h2
theorem andF (h : a s = .ok (.bl false)) : fAnd a b s = .ok (.bl false) := by
  unfold fAnd
  rw [h]
  rfl
theorem orT (h : a s = .ok (.bl true)) : fOr a b s = .ok (.bl true) := by
  unfold fOr
  rw [h]
  rfl
theorem orF {r : Res D} (h : a s = .ok (.bl false)) (h2 : b s = r) : fOr a b s = r := by
  unfold fOr
  rw [h]
  exact h2
theorem andTT {r : Res Bool} (h : t s = .ok true) (h2 : u s = r) : fAndT t u s = r := by
  unfold fAndT
  rw [h]
  exact h2
theorem andTF (h : t s = .ok false) : fAndT t u s = .ok false := by
  unfold fAndT
  rw [h]
  rfl
theorem orTT (h : t s = .ok true) : fOrT t u s = .ok true := by
  unfold fOrT
  rw [h]
  rfl
theorem orTF {r : Res Bool} (h : t s = .ok false) (h2 : u s = r) : fOrT t u s = r := by
  unfold fOrT
  rw [h]
  exact h2
theorem iteT {r : Res D} (h : t s = .ok true) (h2 : a s = r) : fIf t a b s = r := by
  unfold fIf
  rw [h]
  exact h2
theorem iteF {r : Res D} (h : t s = .ok false) (h2 : b s = r) : fIf t a b s = r := by
  unfold fIf
  rw [h]
  exact h2
theorem callE {len : Nat} {f : FFn} {dds ds : List D} {r : Res D} (h : l s = .ok ds) (hl : (ds ++ dds).length = len) (h2 : f (ds ++ dds) = r) : fCall len f dds l s = r := by
  unfold fCall
  rw [h]
  show (if (ds ++ dds).length = len then _ else _) = _
  rw [if_pos hl]
  exact h2
theorem makeE {len : Nat} {f : FFn} {dds ds : List D} (h : l s = .ok ds) (hl : (ds ++ dds).length + 1 = len) (h2 : f (ds ++ dds) = .ok d) (h3 : isObj d = true) : fMake len f dds l s = .ok d := by
  unfold fMake
  rw [h]
  show (if (ds ++ dds).length + 1 = len then _ else _) = _
  rw [if_pos hl, h2]
  show (if isObj d = true then _ else _) = _
  rw [if_pos h3]
theorem methE {C mn : Str} {len : Nat} {f : FFn} {dds ds : List D} {fs : List (Str × D)} {r : Res D} (ho : a s = .ok (.obj C fs)) (hn : fs.lookup mn = none) (h : l s = .ok ds) (hl : (D.obj C fs :: (ds ++ dds)).length = len) (h2 : f (.obj C fs :: (ds ++ dds)) = r) : fMeth C mn len f dds a l s = r := by
  unfold fMeth
  rw [ho]
  show (if C = C ∧ fs.lookup mn = none then _ else _) = _
  rw [if_pos ⟨rfl, hn⟩, h]
  show (if (D.obj C fs :: (ds ++ dds)).length = len then _ else _) = _
  rw [if_pos hl]
  exact h2
theorem itemE {C : Str} {f : FFn} {fs : List (Str × D)} {r : Res D} (ho : a s = .ok (.obj C fs)) (h : b s = .ok d) (h2 : f [.obj C fs, d] = r) : fItem C f a b s = r := by
  unfold fItem
  rw [ho, h]
  show (if C = C then _ else _) = _
  rw [if_pos rfl]
  exact h2
theorem fldE {C g : Str} {fs : List (Str × D)} (ho : a s = .ok (.obj C fs)) (h : fs.lookup g = some d) : fFld C g a s = .ok d := by
  unfold fFld
  rw [ho]
  show (if C = C then _ else _) = _
  rw [if_pos rfl, h]
  rfl
theorem lcE {i : FM (List D)} {hs : List Nat} {g : FG} {ds xs : List D} (h : i s = .ok ds) (hl : ds.length ≤ LIM) (h2 : fLcL g t a (hideL s hs) ds = .ok xs) : fLc i hs g t a s = .ok (.lst xs) := by
  unfold fLc
  rw [h]
  show (if ds.length ≤ LIM then _ else _) = _
  rw [if_pos hl, h2]
  rfl
theorem lcDE {p : Ev → Option D} {k : List (Key × D) → List D} {hs : List Nat} {g : FG} {kvs : List (Key × D)} {xs : List D} (h : p s = some (.dic kvs)) (hl : (k kvs).length ≤ LIM) (h2 : fLcL g t a (hideL s hs) (k kvs) = .ok xs) : fLcD p k hs g t a s = .ok (.lst xs) := by
  unfold fLcD
  rw [h]
  show (if (k kvs).length ≤ LIM then _ else _) = _
  rw [if_pos hl, h2]
  rfl
theorem dcE {i : FM (List D)} {hs : List Nat} {g : FG} {ds : List D} {xs : List (Key × D)} (h : i s = .ok ds) (hl : ds.length ≤ LIM) (h2 : fDcL g t a b (hideL s hs) ds [] = .ok xs) : fDc i hs g t a b s = .ok (.dic xs) := by
  unfold fDc
  rw [h]
  show (if ds.length ≤ LIM then _ else _) = _
  rw [if_pos hl, h2]
  rfl
theorem dcDE {p : Ev → Option D} {k : List (Key × D) → List D} {hs : List Nat} {g : FG} {kvs xs : List (Key × D)} (h : p s = some (.dic kvs)) (hl : (k kvs).length ≤ LIM) (h2 : fDcL g t a b (hideL s hs) (k kvs) [] = .ok xs) : fDcD p k hs g t a b s = .ok (.dic xs) := by
  unfold fDcD
  rw [h]
  show (if (k kvs).length ≤ LIM then _ else _) = _
  rw [if_pos hl, h2]
  rfl
theorem dgetE {kvs : List (Key × D)} {kk : Key} {kd : D} (h : a s = .ok (.dic kvs)) (h2 : b s = .ok kd) (hk : keyD kd = some kk) (h3 : c s = .ok d) : fDget a b c s = .ok ((lookK kvs kk).getD d) := by
  unfold fDget
  rw [h]
  show (b s).bind _ = _
  rw [h2]
  show (c s).bind _ = _
  rw [h3]
  show (ofO (keyD kd)).bind _ = _
  rw [hk]
  rfl
theorem iterE {ds : List D} (h : a s = .ok d) (h2 : dIter d = some ds) : fIter a s = .ok ds := by
  unfold fIter
  rw [h]
  show ofO (dIter d) = _
  rw [h2]
  rfl
theorem dsp1E {kvs : List (Key × D)} {kk : Key} {kd : D} (h : a s = .ok (.dic kvs)) (hl : kvs.length < LIM) (h2 : b s = .ok kd) (hk : keyD kd = some kk) (h3 : c s = .ok d) : fDsp1 a b c s = .ok (.dic (putD kvs kk d)) := by
  unfold fDsp1
  rw [h]
  show (if kvs.length < LIM then _ else _) = _
  rw [if_pos hl, h2]
  show (ofO (keyD kd)).bind _ = _
  rw [hk]
  show (c s).bind _ = _
  rw [h3]
  rfl
theorem setNeE {kvs more : List (Key × D)} (h : a s = .ok (.dic kvs)) (hl : kvs.length ≤ 4000) (h2 : b s = .ok (.dic more)) (hl2 : more.length ≤ 4000) : fSetNe a b s = .ok (dKeysNe kvs more) := by
  unfold fSetNe
  rw [h]
  show (if kvs.length ≤ 4000 then _ else _) = _
  rw [if_pos hl, h2]
  show (if more.length ≤ 4000 then _ else _) = _
  rw [if_pos hl2]
end
/-! loops -/
theorem for_inv {g : FG} {b : FS} (I : Ev → Prop) : ∀ (ds : List D) (s : Ev), I s → (∀ d ∈ ds, ∀ s, I s → ∃ s1, g d s = some s1 ∧ ∃ s2, b s1 = .nx s2 ∧ I s2) → ∃ s', fForL g b ds s = .nx s' ∧ I s'
  | [], s, h, _ => ⟨s, rfl, h⟩
  | d :: ds, s, h, st => by
    obtain ⟨s1, e1, s2, e2, h2⟩ := st d List.mem_cons_self s h
    obtain ⟨s', e3, h3⟩ := for_inv I ds s2 h2 fun d hd => st d (List.mem_cons_of_mem _ hd)
    refine ⟨s', ?_, h3⟩
    rw [fForL, e1]
    show (match b s1 with | .nx s2 => fForL g b ds s2 | .ct s2 => fForL g b ds s2 | .bk s2 => .nx s2 | o => o) = _
    rw [e2]
    exact e3
/-- .. with what was walked already -/
theorem for_go {α : Type} {g : FG} {b : FS} (f : α → D) (I : List α → Ev → Prop) (L : List α) (st : ∀ acc d post s, acc ++ d :: post = L → I acc s → ∃ s1, g (f d) s = some s1 ∧ ∃ s2, b s1 = .nx s2 ∧ I (acc ++ [d]) s2) : ∀ (ds acc : List α) (s : Ev), acc ++ ds = L → I acc s → ∃ s', fForL g b (ds.map f) s = .nx s' ∧ I L s'
  | [], acc, s, e, h => ⟨s, rfl, by rw [List.append_nil] at e; rw [← e]; exact h⟩
  | d :: ds, acc, s, e, h => by
    obtain ⟨s1, e1, s2, e2, h2⟩ := st acc d ds s e h
    obtain ⟨s', e3, h3⟩ := for_go f I L st ds (acc ++ [d]) s2 (by rw [List.append_assoc]; exact e) h2
    refine ⟨s', ?_, h3⟩
    rw [List.map_cons, fForL, e1]
    show (match b s1 with | .nx s2 => fForL g b _ s2 | .ct s2 => fForL g b _ s2 | .bk s2 => .nx s2 | o => o) = _
    rw [e2]
    exact e3
theorem for_acc {α : Type} {g : FG} {b : FS} (f : α → D) (I : List α → Ev → Prop) (L : List α) {s : Ev} (h0 : I [] s) (st : ∀ acc d post s, acc ++ d :: post = L → I acc s → ∃ s1, g (f d) s = some s1 ∧ ∃ s2, b s1 = .nx s2 ∧ I (acc ++ [d]) s2) : ∃ s', fForL g b (L.map f) s = .nx s' ∧ I L s' := for_go f I L st L [] s rfl h0
theorem forE_go {α : Type} {g : FG} {b : FS} (f : α → D) (I : List α → Ev → Prop) (L : List α) (st : ∀ acc d post s, acc ++ d :: post = L → I acc s → ∃ s1, g (.tup [.int (acc.length : Nat), f d]) s = some s1 ∧ ∃ s2, b s1 = .nx s2 ∧ I (acc ++ [d]) s2) : ∀ (ds acc : List α) (s : Ev), acc ++ ds = L → I acc s → ∃ s', fForL g b (pairsD acc.length (ds.map f)) s = .nx s' ∧ I L s'
  | [], acc, s, e, h => ⟨s, rfl, by rw [List.append_nil] at e; rw [← e]; exact h⟩
  | d :: ds, acc, s, e, h => by
    obtain ⟨s1, e1, s2, e2, h2⟩ := st acc d ds s e h
    obtain ⟨s', e3, h3⟩ := forE_go f I L st ds (acc ++ [d]) s2 (by rw [List.append_assoc]; exact e) h2
    refine ⟨s', ?_, h3⟩
    rw [List.length_append, List.length_singleton] at e3
    rw [List.map_cons, pairsD, fForL, e1]
    show (match b s1 with | .nx s2 => fForL g b _ s2 | .ct s2 => fForL g b _ s2 | .bk s2 => .nx s2 | o => o) = _
    rw [e2]
    exact e3
theorem for_enum {α : Type} {g : FG} {b : FS} (f : α → D) (I : List α → Ev → Prop) (L : List α) {s : Ev} (h0 : I [] s) (st : ∀ acc d post s, acc ++ d :: post = L → I acc s → ∃ s1, g (.tup [.int (acc.length : Nat), f d]) s = some s1 ∧ ∃ s2, b s1 = .nx s2 ∧ I (acc ++ [d]) s2) : ∃ s', fForL g b (pairsD 0 (L.map f)) s = .nx s' ∧ I L s' := forE_go f I L st L [] s rfl h0
theorem lc_filter {α : Type} {g : FG} {t : FM Bool} {e : FM D} {s0 : Ev} (f : α → D) (p : α → Bool) (v : α → D) : ∀ ds : List α, (∀ d ∈ ds, ∃ s1, g (f d) s0 = some s1 ∧ t s1 = .ok (p d) ∧ (p d = true → e s1 = .ok (v d))) → fLcL g t e s0 (ds.map f) = .ok ((ds.filter p).map v)
  | [], _ => rfl
  | d :: ds, h => by
    obtain ⟨s1, e1, e2, e3⟩ := h d List.mem_cons_self
    have ih := lc_filter f p v ds fun d hd => h d (List.mem_cons_of_mem _ hd)
    rw [List.map_cons, fLcL, e1]
    show (t s1).calm.bind _ = _
    rw [e2]
    show (if p d = true then _ else _) = _
    cases hp : p d with
    | false =>
      rw [if_neg (by decide), ih, List.filter_cons, hp]
      rfl
    | true =>
      rw [if_pos rfl, e3 hp, ih, List.filter_cons, hp]
      rfl
theorem lc_map {α : Type} {g : FG} {e : FM D} {s0 : Ev} (f : α → D) (v : α → D) (ds : List α) (h : ∀ d ∈ ds, ∃ s1, g (f d) s0 = some s1 ∧ e s1 = .ok (v d)) : fLcL g fYes e s0 (ds.map f) = .ok (ds.map v) := by
  have := lc_filter (g := g) (t := fYes) (e := e) (s0 := s0) f (fun _ => true) v ds fun d hd => by
    obtain ⟨s1, e1, e2⟩ := h d hd
    exact ⟨s1, e1, rfl, fun _ => e2⟩
  rw [this, List.filter_eq_self.mpr fun _ _ => rfl]
/-- a dict by a comprehension over unlike names -/
theorem dc_map {α β : Type} {g : FG} {k e : FM D} {s0 : Ev} (f : α → D) (kx : α → Str) (v : α → β) (vd : β → D) : ∀ (ds : List α) (acc : List (Str × β)), (acc.map (·.1) ++ ds.map kx).Nodup → (∀ d ∈ ds, ∃ s1, g (f d) s0 = some s1 ∧ k s1 = .ok (.str (kx d)) ∧ e s1 = .ok (vd (v d))) →
    fDcL g fYes k e s0 (ds.map f) (mapD vd acc) = .ok (mapD vd (acc ++ ds.map fun d => (kx d, v d)))
  | [], acc, _, _ => by rw [List.map_nil, List.map_nil, List.append_nil]; rfl
  | d :: ds, acc, hn, h => by
    obtain ⟨s1, e1, e2, e3⟩ := h d List.mem_cons_self
    have hd : kx d ∉ acc.map (·.1) := fun z => by
      rw [List.map_cons] at hn
      exact (List.nodup_append.mp hn).2.2 _ z _ List.mem_cons_self rfl
    rw [List.map_cons, fDcL, e1]
    show (k s1).calm.bind _ = _
    rw [e2]
    show (e s1).calm.bind _ = _
    rw [e3]
    show fDcL g fYes k e s0 (ds.map f) (putD (mapD vd acc) (.inr (kx d)) (vd (v d))) = _
    rw [put_new hd, dc_map f kx v vd ds (acc ++ [(kx d, v d)]) (by rw [List.map_append, List.append_assoc]; exact hn) fun d hd => h d (List.mem_cons_of_mem _ hd), List.append_assoc]
    rfl
end DL
namespace DL
open PySem PySem.Spec PyProof.Rows L2
variable [TabC]
/-! ### == and != of dicts, by data -/
def eqK (kvs more : List (Key × D)) : Bool := kvs.all fun p => match lookK more p.1 with
  | some d => pyEq p.2 d
  | none => false
def okK (kvs : List (Key × D)) : Bool := kvs.all fun p => okD p.2
theorem look_ok {kvs : List (Key × D)} {k : Key} {d : D} (h : okK kvs = true) (e : lookK kvs k = some d) : okD d = true := by
  unfold lookK at e
  cases z : kvs.find? fun kv => decide (kv.1 = k) with
  | none => rw [z] at e; cases e
  | some p =>
    rw [z] at e
    cases e
    exact List.all_eq_true.mp h p (List.mem_of_find?_eq_some z)
section
variable {X : Cx} {pins : List (Addr × Obj)} {σ : L2.St} {H : Hp} {s : Shared} {aS : Addr} {A : AS}
/-- two things by data, compared -/
theorem eqP_data (I : Inv X pins σ H s) {B : Around} {d e : D} {v u : V} {x y : Value} (hd : okD d = true) (he : okD e = true) (r1 : Rep X.K aS H A d v) (r2 : Rep X.K aS H A e u) (q1 : RelV v x) (q2 : RelV u y) (hu : B.units + 64 < cLine) : SeqAt.EqP X.prog X.w B s x y (pyEq d e) := by
  obtain ⟨as, z1⟩ := Dp.reads I _ _ _ (Rep.dp d v (okD_lay hd) r1) q1
  obtain ⟨bs, z2⟩ := Dp.reads I _ _ _ (Rep.dp e u (okD_lay he) r2) q2
  have m : B.units + min (toPD d).depth (toPD e).depth < cLine := by
    unfold okD SeqAt.shaped at hd
    have := of_decide_eq_true (Bool.and_eq_true_iff.mp hd).2
    omega
  exact fun E Q q => SeqAt.eqAt_reads _ _ B s x y as bs z1 z2 (okD_lay hd) (okD_lay he) m _ _ E Q q
theorem hits_data (I : Inv X pins σ H s) {B : Around} (hu : B.units + 64 < cLine) {more : List (Key × D)} {ls : List (Key × V)} {vb : List (Key × Value)} (om : okK more = true) (rm : RepK X.K aS H A more ls) (rb : KV ls vb) :
    ∀ (kvs : List (Key × D)) (ks : List (Key × V)) (va : List (Key × Value)), okK kvs = true → RepK X.K aS H A kvs ks → KV ks va → PySem.W.KeqHitsP X.prog X.w B s vb va (eqK kvs more)
  | [], ks, va, _, r, ra => by
    rw [RepK] at r
    subst r
    cases ra
    exact .nil
  | (k, d) :: kvs, ks, va, ok, r, ra => by
    rw [RepK] at r
    obtain ⟨v, vr, e, r1, q⟩ := r
    subst e
    cases ra with
    | @cons p qv ps qs h t =>
      obtain ⟨h1, h2⟩ := h
      obtain ⟨key, x⟩ := qv
      have h1 : k = key := h1
      subst h1
      have h2 : RelV v x := h2
      have ok1 : okD d = true := (Bool.and_eq_true_iff.mp (show (okD d && okK kvs) = true from ok)).1
      have ok2 : okK kvs = true := (Bool.and_eq_true_iff.mp (show (okD d && okK kvs) = true from ok)).2
      have rr : RelO (valV ls k) (valueAt vb k) := rb.val k
      have unf : eqK ((k, d) :: kvs) more = ((match lookK more k with | some d' => pyEq d d' | none => false) && eqK kvs more) := rfl
      rw [unf]
      rcases rm.val k with ⟨z1, z2⟩ | ⟨d', v', z1, z2, z3⟩
      · rw [z2] at rr
        rw [z1]
        exact .miss (by cases hv : valueAt vb k with | none => rfl | some y => rw [hv] at rr; cases rr)
      · rw [z2] at rr
        obtain ⟨y, hy, ry⟩ := rr.some_of
        rw [z1]
        exact .hit hy (eqP_data I ok1 (look_ok om z1) r1 z3 h2 ry hu) (hits_data I hu om rm rb kvs vr qs ok2 q t)
end
/-- == with dicts -/
def dEqX (a b : D) : Option D := match a, b with
  | .dic kvs, .dic more => if (okK kvs && okK more) = true then some (.bl (kvs.length == more.length && eqK kvs more)) else none
  | a, b => dEq a b
theorem RepK.len {K : PySem.W.Frag} {aS : Addr} {H : Hp} {A : AS} : ∀ {ds : List (Key × D)} {vs : List (Key × V)}, RepK K aS H A ds vs → vs.length = ds.length
  | [], vs, h => by rw [RepK] at h; rw [h]; rfl
  | (k, d) :: ds, vs, h => by
    rw [RepK] at h
    obtain ⟨v, vr, e, _, q⟩ := h
    rw [e, List.length_cons, List.length_cons, RepK.len q]
def rDic (K : PySem.W.Frag) (f : Bool → Bool) : R2 := fun x y H Q => ∃ (aS : Addr) (A : AS) (a b : Addr) (kvs more : List (Key × D)) (ks ls : List (Key × V)), x = .ref a ∧ y = .ref b ∧ Rd H a (.dK ks) ∧ Rd H b (.dK ls) ∧ RepK K aS H A kvs ks ∧ RepK K aS H A more ls ∧ okK kvs = true ∧ okK more = true ∧ Q (.bl (f (kvs.length == more.length && eqK kvs more))) H
section
variable {X : Cx}
theorem op_eqDic (hu : X.A.units + 66 < cLine) : OpR X (compareOp .Eq) (rDic X.K id) := by
  intro pins s σ H x y v u Q I rx ry h
  obtain ⟨aS, A, a, b, kvs, more, ks, ls, rfl, rfl, ha, hb, r1, r2, o1, o2, q⟩ := h
  cases (show v = Value.ref a from rx)
  cases (show u = Value.ref b from ry)
  obtain ⟨_, ya, va, ra, da⟩ := (show ObjOk X.prog X.w H s.heap a (.dK ks) from ha.ok I.hok)
  obtain ⟨_, yb, vb, rb, db⟩ := (show ObjOk X.prog X.w H s.heap b (.dK ls) from hb.ok I.hok)
  refine PySem.W.rcP_dicts (knd := mixKind X.prog X.w) (r := eqK kvs more) ya yb da db (by omega) (fun _ => hits_data I (B := X.A.in1) (by show X.A.units + 1 + 64 < cLine; omega) o2 r2 rb kvs ks va o1 r1 ra) _ _ ?_
  rw [← ra.length, ← rb.length, r1.len, r2.len]
  exact ⟨.bl _, H, I, rfl, q⟩
end
end DL
namespace DL
open PySem PySem.Spec PyProof.Rows L2 PySem.Calls PyProof.V
variable [TabC]
section
variable {prog : Program} {w : World} {K : Type} [DecidableEq K] {knd : PySem.KeyKind prog w K} {A : Around} {s : Shared}
theorem rc_ne {a b : Addr} {ka kb : List (K × Value)} {r : Bool} (ha : (a == sysModules) = false) (hb : (b == sysModules) = false) (da : s.heap.DictOf knd a ka) (db : s.heap.DictOf knd b kb) (hu : A.units < cLine)
    (hits : ka.length = kb.length → PySem.W.KeqHitsP prog w A.in1 s kb ka r) (E Q : Value → Shared → Prop) (h : Q (.bool (!(ka.length == kb.length && r))) s) : wpAny (model prog w) A (richCompare .NotEq (.ref a) (.ref b)) Q E s := by
  refine wpAny_richCompare_same_room (op := .NotEq) da.typeIs db.typeIs PySem.F.slot_dict_ne (wpAny_call_entry PySem.F.slot_dict_ne da.typeIs PySem.F.entry_dict_ne ?_ (PySem.F.args_dict_ne_2 _ _)) hu
  show wpAny _ _ (Builtin.Dict.dictSlotArgs "__ne__" ⟨[.ref a, .ref b], []⟩ >>= _) _ _ s
  refine wpAny_bind ?_; unfold Builtin.Dict.dictSlotArgs
  refine wpAny_bind (wpAny_notOrdered_dict da.typeIs (show wpAny _ _ (pure (Value.ref a, Value.ref b)) _ _ s from wpAny_pure (wpAny_bind (wpAny_isInstance (T := "dict") db.typeIs PySem.F.sub_dict_dict ?_))))
  simp only [Bool.not_true, Bool.false_eq_true, if_false]
  refine wpAny_bind (wpAny_pure (wpAny_bind (wpAny_pure (wpAny_bind (PySem.W.samePairsP ha hb da db hits (wpAny_pure ⟨_, rfl, ⟨(fun x => nomatch x), ?_⟩⟩))))))
  cases hz : (ka.length == kb.length && r) <;> rw [hz] at h <;> exact h
end
section
variable {X : Cx}
theorem op_neDic (hu : X.A.units + 66 < cLine) : OpR X (compareOp .NotEq) (rDic X.K not) := by
  intro pins s σ H x y v u Q I rx ry h
  obtain ⟨aS, A, a, b, kvs, more, ks, ls, rfl, rfl, ha, hb, r1, r2, o1, o2, q⟩ := h
  cases (show v = Value.ref a from rx)
  cases (show u = Value.ref b from ry)
  obtain ⟨_, ya, va, ra, da⟩ := (show ObjOk X.prog X.w H s.heap a (.dK ks) from ha.ok I.hok)
  obtain ⟨_, yb, vb, rb, db⟩ := (show ObjOk X.prog X.w H s.heap b (.dK ls) from hb.ok I.hok)
  refine rc_ne (knd := mixKind X.prog X.w) (r := eqK kvs more) ya yb da db (by omega) (fun _ => hits_data I (B := X.A.in1) (by show X.A.units + 1 + 64 < cLine; omega) o2 r2 rb kvs ks va o1 r1 ra) _ _ ?_
  rw [← ra.length, ← rb.length, r1.len, r2.len]
  exact ⟨.bl _, H, I, rfl, q⟩
theorem Room.u66 {k : Nat} {A : Around} (h : Room k A) : A.units + 66 < cLine := by have := h.un; omega
def dNeX (a b : D) : Option D := match a, b with
  | .dic kvs, .dic more => if (okK kvs && okK more) = true then some (.bl (!(kvs.length == more.length && eqK kvs more))) else none
  | a, b => dNe a b
theorem od_eqX (hu : X.A.units + 66 < cLine) : OpD X (compareOp .Eq) dEqX := by
  obtain ⟨r0, h0, k0⟩ := od_eq (X := X) (by omega)
  refine ⟨_, OpR.or (op_eqDic hu) h0, fun aS H A n d1 d2 d v1 v2 Q c r1 r2 e w => ?_⟩
  unfold dEqX at e
  split at e
  · split at e
    · rename_i kvs more h
      cases e
      obtain ⟨o1, o2⟩ := Bool.and_eq_true_iff.mp h
      obtain ⟨a, ks, e1, _, g1, q1⟩ := r1
      obtain ⟨b, ls, e2, _, g2, q2⟩ := r2
      exact .inl ⟨aS, A, a, b, kvs, more, ks, ls, e1, e2, g1, g2, q1, q2, o1, o2, w _ _ KpS.refl c.st rep_bl⟩
    · cases e
  · exact .inr (k0 aS H A n d1 d2 d v1 v2 Q c r1 r2 e w)
theorem od_neX (hu : X.A.units + 66 < cLine) : OpD X (compareOp .NotEq) dNeX := by
  obtain ⟨r0, h0, k0⟩ := od_ne (X := X) (by omega)
  refine ⟨_, OpR.or (op_neDic hu) h0, fun aS H A n d1 d2 d v1 v2 Q c r1 r2 e w => ?_⟩
  unfold dNeX at e
  split at e
  · split at e
    · rename_i kvs more h
      cases e
      obtain ⟨o1, o2⟩ := Bool.and_eq_true_iff.mp h
      obtain ⟨a, ks, e1, _, g1, q1⟩ := r1
      obtain ⟨b, ls, e2, _, g2, q2⟩ := r2
      exact .inl ⟨aS, A, a, b, kvs, more, ks, ls, e1, e2, g1, g2, q1, q2, o1, o2, w _ _ KpS.refl c.st rep_bl⟩
    · cases e
  · exact .inr (k0 aS H A n d1 d2 d v1 v2 Q c r1 r2 e w)
end
end DL
namespace DL
open PySem PySem.Spec PyProof.Rows L2
variable [TabC]
abbrev N_is_name : List Str := ["thing", "sign"]
def B_is_name : FS :=
  (fSeq (fIfS (fOrT (fNotT (fVal (fBlt dIsi (fCons (fVar 0) (fCons (fC (.raw (.ty "str"))) fNil))))) (fOrT (fBinT dEq (fVar 0) (fC (.str "clock"))) (fNotT (fChainT dLe dLe (fC (.int 1)) (fBlt dLen (fCons (fVar 0) fNil)) (fC (.int 8)))))) (fRet (fC (.bl false))) fNilS) (fRet (fBlt dAll (fCons (fLc (fIter (fVar 0)) [1] (fgNm 1) fYes (fBin dIn (fVar 1) (fC (.str "abcdefghijklmnopqrstuvwxyz")))) fNil))))
def f_is_name : FFn := runB N_is_name B_is_name
abbrev N_is_list : List Str := ["thing"]
def B_is_list : FS :=
  (fRet (fBlt dIsi (fCons (fVar 0) (fCons (fTup (fCons (fC (.raw (.ty "list"))) (fCons (fC (.raw (.ty "tuple"))) fNil))) fNil))))
def f_is_list : FFn := runB N_is_list B_is_list
abbrev N_is_integer : List Str := ["thing"]
def B_is_integer : FS :=
  (fRet (fAnd (fBlt dIsi (fCons (fVar 0) (fCons (fC (.raw (.ty "int"))) fNil))) (fNot (fBlt dIsi (fCons (fVar 0) (fCons (fC (.raw (.ty "bool"))) fNil))))))
def f_is_integer : FFn := runB N_is_integer B_is_integer
abbrev N_are_bounds : List Str := ["thing"]
def B_are_bounds : FS :=
  (fSeq (fIfS (fOrT (fNotT (fVal (fCall 1 f_is_list [] (fCons (fVar 0) fNil)))) (fOrT (fBinT dNe (fBlt dLen (fCons (fVar 0) fNil)) (fC (.int 2))) (fOrT (fNotT (fVal (fCall 1 f_is_integer [] (fCons (fBin dIdx (fVar 0) (fC (.int 0))) fNil)))) (fNotT (fVal (fCall 1 f_is_integer [] (fCons (fBin dIdx (fVar 0) (fC (.int 1))) fNil))))))) (fRet (fC (.bl false))) fNilS) (fRet (fChain dLe dLe (fC (.int 1)) (fBin dIdx (fVar 0) (fC (.int 0))) (fBin dIdx (fVar 0) (fC (.int 1))))))
def f_are_bounds : FFn := runB N_are_bounds B_are_bounds
abbrev N_rising : List Str := ["things", "found", "thing", "one"]
def b_rising_1 : FS := (fIns 1 (fCons (fBlt dLen (fCons (fLc (fOwnL 1) ([3] ++ [1]) (fgNm 3) (fBinT dLe (fVar 3) (fVar 2)) (fVar 3)) fNil)) (fCons (fVar 2) fNil)))
def B_rising : FS :=
  (fSeq (fSetF 1 (fLst fNil)) (fSeq (fFor (fIter (fVar 0)) (fgNm 2) (b_rising_1)) (fRet (fVar 1))))
def f_rising : FFn := runB N_rising B_rising
abbrev N_is_among : List Str := ["thing", "names"]
def B_is_among : FS :=
  (fRet (fAnd (fBlt dIsi (fCons (fVar 0) (fCons (fC (.raw (.ty "str"))) fNil))) (fBin dIn (fVar 0) (fVar 1))))
def f_is_among : FFn := runB N_is_among B_is_among
abbrev N_is_moment : List Str := ["thing", "names"]
def B_is_moment : FS :=
  (fSeq (fIfS (fNotT (fVal (fCall 1 f_is_list [] (fCons (fVar 0) fNil)))) (fRet (fAnd (fBlt dIsi (fCons (fVar 0) (fCons (fC (.raw (.ty "str"))) fNil))) (fBin dEq (fVar 0) (fC (.str "clock"))))) fNilS) (fRet (fAnd (fBin dEq (fBlt dLen (fCons (fVar 0) fNil)) (fC (.int 2))) (fAnd (fCall 2 f_is_among [] (fCons (fBin dIdx (fVar 0) (fC (.int 0))) (fCons (fTup (fCons (fC (.str "start")) (fCons (fC (.str "done")) fNil))) fNil))) (fCall 2 f_is_among [] (fCons (fBin dIdx (fVar 0) (fC (.int 1))) (fCons (fVar 1) fNil)))))))
def f_is_moment : FFn := runB N_is_moment B_is_moment
abbrev N_is_wish : List Str := ["thing", "names"]
def B_is_wish : FS :=
  (fSeq (fIfS (fOrT (fNotT (fVal (fCall 1 f_is_list [] (fCons (fVar 0) fNil)))) (fBinT dNe (fBlt dLen (fCons (fVar 0) fNil)) (fC (.int 3)))) (fRet (fC (.bl false))) fNilS) (fRet (fAnd (fCall 2 f_is_moment [] (fCons (fBin dIdx (fVar 0) (fC (.int 0))) (fCons (fVar 1) fNil))) (fAnd (fCall 2 f_is_moment [] (fCons (fBin dIdx (fVar 0) (fC (.int 1))) (fCons (fVar 1) fNil))) (fCall 1 f_is_integer [] (fCons (fBin dIdx (fVar 0) (fC (.int 2))) fNil))))))
def f_is_wish : FFn := runB N_is_wish B_is_wish
abbrev N_frozen : List Str := ["thing", "one"]
def B_frozen (sf : FFn) : FS :=
  (fRet (fIf (fVal (fCall 1 f_is_list [] (fCons (fVar 0) fNil))) (fBlt dTuple (fCons (fLc (fIter (fVar 0)) [1] (fgNm 1) fYes (fCall 1 sf [] (fCons (fVar 1) fNil))) fNil)) (fVar 0)))
def r_frozen : Nat → FFn
  | 0 => fun _ => .bad
  | k + 1 => runB N_frozen (B_frozen (r_frozen k))
def f_frozen : FFn := r_frozen 6
abbrev N_checked_wishes : List Str := ["wishes", "names", "index", "wish"]
def b_checked_wishes_1 : FS := (fIfS (fNotT (fVal (fCall 2 f_is_wish [] (fCons (fVar 3) (fCons (fVar 1) fNil))))) (fRaise "BadWish" ["index"] (fCons (fVar 2) fNil)) fNilS)
def B_checked_wishes : FS :=
  (fSeq (fIfS (fNotT (fVal (fCall 1 f_is_list [] (fCons (fVar 0) fNil)))) (fRaise "BadWish" ["index"] (fCons (fC (.int 0)) fNil)) fNilS) (fSeq (fFor (fEnum (fVar 0)) (fgTp (fgsCons (fgNm 2) (fgsCons (fgNm 3) fgsNil))) (b_checked_wishes_1)) (fRet (fBlt dTuple (fCons (fLc (fIter (fVar 0)) [3] (fgNm 3) fYes (fCall 1 f_frozen [] (fCons (fVar 3) fNil))) fNil)))))
def f_checked_wishes : FFn := runB N_checked_wishes B_checked_wishes
abbrev N_is_station : List Str := ["thing", "names", "name"]
def B_is_station : FS :=
  fNever
def f_is_station : FFn := runB N_is_station B_is_station
abbrev N_Meal___init__ : List Str := ["self", "dishes", "wishes", "stations", "name", "bounds", "index", "station"]
def b_Meal___init___1 : FS := (fIfS (fOrT (fNotT (fVal (fCall 1 f_is_name [] (fCons (fVar 4) fNil)))) (fNotT (fVal (fCall 1 f_are_bounds [] (fCons (fVar 5) fNil))))) (fRaise "BadDish" ["name"] (fCons (fVar 4) fNil)) fNilS)
def b_Meal___init___2 : FS := (fIfS (fNotT (fVal (fCall 2 f_is_station [] (fCons (fVar 7) (fCons (fFld "Meal" "bounds" (fVar 0)) fNil))))) (fRaise "BadStation" ["index"] (fCons (fVar 6) fNil)) fNilS)
def B_Meal___init__ : FS :=
  (fSeq (fForD (fun s => (s[1]?).join) itemsD (fgTp (fgsCons (fgNm 4) (fgsCons (fgNm 5) fgsNil))) (b_Meal___init___1)) (fSeq (fFldS 0 "Meal" "bounds" (fDc (fIter (fCall 1 f_rising [] (fCons (fBlt dList (fCons (fVar 1) fNil)) fNil))) [4] (fgNm 4) fYes (fVar 4) (fBlt dTuple (fCons (fBin dIdx (fVar 1) (fVar 4)) fNil)))) (fSeq (fFldS 0 "Meal" "wish_row" (fCall 2 f_checked_wishes [] (fCons (fVar 2) (fCons (fFld "Meal" "bounds" (fVar 0)) fNil)))) (fSeq (fIfS (fNotT (fVal (fCall 1 f_is_list [] (fCons (fVar 3) fNil)))) (fRaise "BadStation" ["index"] (fCons (fC (.int 0)) fNil)) fNilS) (fSeq (fFor (fEnum (fVar 3)) (fgTp (fgsCons (fgNm 6) (fgsCons (fgNm 7) fgsNil))) (b_Meal___init___2)) (fFldS 0 "Meal" "station_row" (fBlt dTuple (fCons (fLc (fIter (fVar 3)) [7] (fgNm 7) fYes (fBlt dTuple (fCons (fVar 7) fNil))) fNil))))))))
def f_Meal___init__ : FFn := runI "Meal" N_Meal___init__ B_Meal___init__
abbrev N_is_anchor : List Str := ["thing", "names"]
def B_is_anchor : FS :=
  (fRet (fOr (fBin dEq (fVar 0) (fC (.str "clock"))) (fBin dIn (fVar 0) (fBlt dList (fCons (fVar 1) fNil)))))
def f_is_anchor : FFn := runB N_is_anchor B_is_anchor
abbrev N_is_book_row : List Str := ["thing", "names"]
def B_is_book_row : FS :=
  (fSeq (fIfS (fOrT (fNotT (fVal (fCall 1 f_is_list [] (fCons (fVar 0) fNil)))) (fOrT (fBinT dNe (fBlt dLen (fCons (fVar 0) fNil)) (fC (.int 2))) (fNotT (fVal (fCall 2 f_is_anchor [] (fCons (fBin dIdx (fVar 0) (fC (.int 0))) (fCons (fVar 1) fNil))))))) (fRet (fC (.bl false))) fNilS) (fRet (fAnd (fCall 1 f_is_integer [] (fCons (fBin dIdx (fVar 0) (fC (.int 1))) fNil)) (fBin dGe (fBin dIdx (fVar 0) (fC (.int 1))) (fC (.int 0))))))
def f_is_book_row : FFn := runB N_is_book_row B_is_book_row
abbrev N_way_up : List Str := ["anchors", "name", "found", "here"]
def b_way_up_1 : FS := (fSeq (fApp 2 (fVar 3)) (fSet 3 (fDget (fVar 0) (fVar 3) (fC (.str "clock")))))
def B_way_up : FS :=
  (fSeq (fSetF 2 (fLst fNil)) (fSeq (fSet 3 (fDget (fVar 0) (fVar 1) (fC (.str "clock")))) (fSeq (fWhile (fAndT (fBinT dNe (fVar 3) (fC (.str "clock"))) (fBinT dNotIn (fVar 3) (fVar 2))) (b_way_up_1)) (fRet (fVar 2)))))
def f_way_up : FFn := runB N_way_up B_way_up
abbrev N_round_from : List Str := ["anchors", "name", "found"]
def b_round_from_1 : FS := (fApp 2 (fBin dIdx (fVar 0) (fBin dIdx (fVar 2) (fNeg (fC (.int 1))))))
def B_round_from : FS :=
  (fSeq (fSetF 2 (fLst (fCons (fVar 1) fNil))) (fSeq (fWhile (fBinT dNe (fBin dIdx (fVar 0) (fBin dIdx (fVar 2) (fNeg (fC (.int 1))))) (fVar 1)) (b_round_from_1)) (fRet (fVar 2))))
def f_round_from : FFn := runB N_round_from B_round_from
abbrev N_check_rounds : List Str := ["anchors", "name"]
def b_check_rounds_1 : FS := (fIfS (fBinT dIn (fVar 1) (fCall 2 f_way_up [] (fCons (fVar 0) (fCons (fVar 1) fNil)))) (fRaise "Round" ["names"] (fCons (fCall 2 f_round_from [] (fCons (fVar 0) (fCons (fVar 1) fNil))) fNil)) fNilS)
def B_check_rounds : FS :=
  (fFor (fIter (fCall 1 f_rising [] (fCons (fBlt dList (fCons (fVar 0) fNil)) fNil))) (fgNm 1) (b_check_rounds_1))
def f_check_rounds : FFn := runB N_check_rounds B_check_rounds
abbrev N_Book___init__ : List Str := ["self", "rows", "name", "pair"]
def b_Book___init___1 : FS := (fIfS (fOrT (fNotT (fVal (fCall 1 f_is_name [] (fCons (fVar 2) fNil)))) (fNotT (fVal (fCall 2 f_is_book_row [] (fCons (fVar 3) (fCons (fVar 1) fNil)))))) (fRaise "BadRow" ["name"] (fCons (fVar 2) fNil)) fNilS)
def B_Book___init__ : FS :=
  (fSeq (fForD (fun s => (s[1]?).join) itemsD (fgTp (fgsCons (fgNm 2) (fgsCons (fgNm 3) fgsNil))) (b_Book___init___1)) (fSeq (fDrop (fCall 1 f_check_rounds [] (fCons (fDcD (fun s => (s[1]?).join) itemsD [2, 3] (fgTp (fgsCons (fgNm 2) (fgsCons (fgNm 3) fgsNil))) fYes (fVar 2) (fBin dIdx (fVar 3) (fC (.int 0)))) fNil))) (fFldS 0 "Book" "pairs" (fDc (fIter (fCall 1 f_rising [] (fCons (fBlt dList (fCons (fVar 1) fNil)) fNil))) [2] (fgNm 2) fYes (fVar 2) (fBlt dTuple (fCons (fBin dIdx (fVar 1) (fVar 2)) fNil))))))
def f_Book___init__ : FFn := runI "Book" N_Book___init__ B_Book___init__
abbrev N_check_alike : List Str := ["dishes", "others"]
def B_check_alike : FS :=
  (fIfS (fSetNe (fVar 0) (fVar 1)) (fRaise0 "Unlike") fNilS)
def f_check_alike : FFn := runB N_check_alike B_check_alike
abbrev N_anchors_of : List Str := ["book", "name", "pair"]
def B_anchors_of : FS :=
  (fRet (fDcD (fun s => ((fun s => (s[0]?).join) s).bind (fldD "Book" "pairs")) itemsD [1, 2] (fgTp (fgsCons (fgNm 1) (fgsCons (fgNm 2) fgsNil))) fYes (fVar 1) (fBin dIdx (fVar 2) (fC (.int 0)))))
def f_anchors_of : FFn := runB N_anchors_of B_anchors_of
abbrev N_check_dish : List Str := ["name", "names"]
def B_check_dish : FS :=
  (fIfS (fNotT (fVal (fCall 2 f_is_among [] (fCons (fVar 0) (fCons (fVar 1) fNil))))) (fRaise "NoDish" ["name"] (fCons (fVar 0) fNil)) fNilS)
def f_check_dish : FFn := runB N_check_dish B_check_dish
abbrev N_Book___getitem__ : List Str := ["self", "name"]
def B_Book___getitem__ : FS :=
  (fSeq (fDrop (fCall 2 f_check_dish [] (fCons (fVar 1) (fCons (fFld "Book" "pairs" (fVar 0)) fNil)))) (fRet (fBin dIdx (fFld "Book" "pairs" (fVar 0)) (fVar 1))))
def f_Book___getitem__ : FFn := runB N_Book___getitem__ B_Book___getitem__
abbrev N_Book_added : List Str := ["self", "name", "anchor", "wait"]
def B_Book_added (sf : FFn) : FS :=
  (fSeq (fAsg (fItem "Book" f_Book___getitem__ (fVar 0) (fVar 1)) (fgTp (fgsCons (fgNm 2) (fgsCons (fgNm 3) fgsNil)))) (fRet (fIf (fBinT dEq (fVar 2) (fC (.str "clock"))) (fVar 3) (fBin dAdd (fVar 3) (fMeth "Book" "added" 2 sf [] (fVar 0) (fCons (fVar 2) fNil))))))
def r_Book_added : Nat → FFn
  | 0 => fun _ => .bad
  | k + 1 => runB N_Book_added (B_Book_added (r_Book_added k))
def f_Book_added : FFn := r_Book_added 20
abbrev N_Book_sums : List Str := ["self", "name"]
def B_Book_sums : FS :=
  (fRet (fDcD (fun s => ((fun s => (s[0]?).join) s).bind (fldD "Book" "pairs")) keysD [1] (fgNm 1) fYes (fVar 1) (fMeth "Book" "added" 2 f_Book_added [] (fVar 0) (fCons (fVar 1) fNil))))
def f_Book_sums : FFn := runB N_Book_sums B_Book_sums
abbrev N_dish_of : List Str := ["moment"]
def B_dish_of : FS :=
  (fRet (fIf (fBinT dEq (fVar 0) (fC (.str "clock"))) (fC (.str "clock")) (fBin dIdx (fVar 0) (fC (.int 1)))))
def f_dish_of : FFn := runB N_dish_of B_dish_of
abbrev N_way_of : List Str := ["anchors", "moment", "way"]
def B_way_of : FS :=
  (fSeq (fIfS (fBinT dEq (fVar 1) (fC (.str "clock"))) (fRet (fLst fNil)) fNilS) (fSeq (fSet 2 (fCall 2 f_way_up [] (fCons (fVar 0) (fCons (fBin dIdx (fVar 1) (fC (.int 1))) fNil)))) (fRet (fIf (fBinT dEq (fBin dIdx (fVar 1) (fC (.int 0))) (fC (.str "done"))) (fBin dAdd (fVar 2) (fLst (fCons (fBin dIdx (fVar 1) (fC (.int 1))) fNil))) (fVar 2)))))
def f_way_of : FFn := runB N_way_of B_way_of
abbrev N_unshared : List Str := ["bounds", "anchors", "one", "other", "most", "way", "later", "name"]
def B_unshared : FS :=
  (fSeq (fAsg (fTup (fCons (fCall 2 f_way_of [] (fCons (fVar 1) (fCons (fVar 2) fNil))) (fCons (fCall 2 f_way_of [] (fCons (fVar 1) (fCons (fVar 3) fNil))) fNil))) (fgTp (fgsCons (fgNm 5) (fgsCons (fgNm 6) fgsNil)))) (fSeq (fSet 4 (fBlt dSum (fCons (fLc (fIter (fVar 6)) [7] (fgNm 7) (fBinT dNotIn (fVar 7) (fVar 5)) (fBin dIdx (fBin dIdx (fVar 0) (fVar 7)) (fC (.int 1)))) fNil))) (fRet (fBin dSub (fVar 4) (fBlt dSum (fCons (fLc (fIter (fVar 5)) [7] (fgNm 7) (fBinT dNotIn (fVar 7) (fVar 6)) (fBin dIdx (fBin dIdx (fVar 0) (fVar 7)) (fC (.int 0)))) fNil))))))
def f_unshared : FFn := runB N_unshared B_unshared
abbrev N_behind_by : List Str := ["bounds", "anchors", "sums", "one", "other", "worths"]
def B_behind_by : FS :=
  (fSeq (fSet 5 (fDsp1 (fVar 2) (fC (.str "clock")) (fC (.int 0)))) (fRet (fBin dAdd (fBin dSub (fBin dIdx (fVar 5) (fCall 1 f_dish_of [] (fCons (fVar 4) fNil))) (fBin dIdx (fVar 5) (fCall 1 f_dish_of [] (fCons (fVar 3) fNil)))) (fCall 4 f_unshared [] (fCons (fVar 0) (fCons (fVar 1) (fCons (fVar 3) (fCons (fVar 4) fNil))))))))
def f_behind_by : FFn := runB N_behind_by B_behind_by
abbrev N_slacks : List Str := ["meal", "book", "anchors", "sums", "one", "other", "most"]
def B_slacks : FS :=
  (fSeq (fDrop (fCall 2 f_check_alike [] (fCons (fFld "Meal" "bounds" (fVar 0)) (fCons (fFld "Book" "pairs" (fVar 1)) fNil)))) (fSeq (fAsg (fTup (fCons (fCall 1 f_anchors_of [] (fCons (fVar 1) fNil)) (fCons (fMeth "Book" "sums" 1 f_Book_sums [] (fVar 1) fNil) fNil))) (fgTp (fgsCons (fgNm 2) (fgsCons (fgNm 3) fgsNil)))) (fRet (fLc (fIter (fFld "Meal" "wish_row" (fVar 0))) [4, 5, 6] (fgTp (fgsCons (fgNm 4) (fgsCons (fgNm 5) (fgsCons (fgNm 6) fgsNil)))) fYes (fBin dSub (fVar 6) (fCall 5 f_behind_by [] (fCons (fFld "Meal" "bounds" (fVar 0)) (fCons (fVar 2) (fCons (fVar 3) (fCons (fVar 4) (fCons (fVar 5) fNil)))))))))))
def f_slacks : FFn := runB N_slacks B_slacks
abbrev N_check_moments : List Str := ["meal", "one", "other", "moment"]
def b_check_moments_1 : FS := (fIfS (fNotT (fVal (fCall 2 f_is_moment [] (fCons (fVar 3) (fCons (fFld "Meal" "bounds" (fVar 0)) fNil))))) (fRaise "BadMoment" ["thing"] (fCons (fVar 3) fNil)) fNilS)
def B_check_moments : FS :=
  (fFor (fIter (fTup (fCons (fVar 1) (fCons (fVar 2) fNil)))) (fgNm 3) (b_check_moments_1))
def f_check_moments : FFn := runB N_check_moments B_check_moments
abbrev N_most_behind : List Str := ["meal", "book", "one", "other"]
def B_most_behind : FS :=
  (fSeq (fDrop (fCall 2 f_check_alike [] (fCons (fFld "Meal" "bounds" (fVar 0)) (fCons (fFld "Book" "pairs" (fVar 1)) fNil)))) (fSeq (fDrop (fCall 3 f_check_moments [] (fCons (fVar 0) (fCons (fVar 2) (fCons (fVar 3) fNil))))) (fRet (fCall 5 f_behind_by [] (fCons (fFld "Meal" "bounds" (fVar 0)) (fCons (fCall 1 f_anchors_of [] (fCons (fVar 1) fNil)) (fCons (fMeth "Book" "sums" 1 f_Book_sums [] (fVar 1) fNil) (fCons (fCall 1 f_frozen [] (fCons (fVar 2) fNil)) (fCons (fCall 1 f_frozen [] (fCons (fVar 3) fNil)) fNil)))))))))
def f_most_behind : FFn := runB N_most_behind B_most_behind
abbrev N__law_with : List Str := ["_law_things", "_law_name", "_law_thing", "_law_found"]
def B__law_with : FS :=
  (fSeq (fSetF 3 (fBlt dDict (fCons (fVar 0) fNil))) (fSeq (fDput 3 (fVar 1) (fVar 2)) (fRet (fVar 3))))
def f__law_with : FFn := runB N__law_with B__law_with
abbrev N__law_same : List Str := ["_law_found", "_law_due", "_law_x", "_law_y"]
def B__law_same (sf : FFn) : FS :=
  (fSeq (fIfS (fVal (fBlt dIsi (fCons (fVar 1) (fCons (fTup (fCons (fC (.raw (.ty "list"))) (fCons (fC (.raw (.ty "tuple"))) fNil))) fNil)))) (fSeq (fIfS (fOrT (fBinT dNeX (fBlt dIsi (fCons (fVar 0) (fCons (fC (.raw (.ty "list"))) fNil))) (fBlt dIsi (fCons (fVar 1) (fCons (fC (.raw (.ty "list"))) fNil)))) (fBinT dNeX (fBlt dIsi (fCons (fVar 0) (fCons (fC (.raw (.ty "tuple"))) fNil))) (fBlt dIsi (fCons (fVar 1) (fCons (fC (.raw (.ty "tuple"))) fNil))))) (fRet (fC (.bl false))) fNilS) (fRet (fAnd (fBin dEqX (fBlt dLen (fCons (fVar 0) fNil)) (fBlt dLen (fCons (fVar 1) fNil))) (fBlt dAll (fCons (fLc (fZip (fVar 0) (fVar 1)) [2, 3] (fgTp (fgsCons (fgNm 2) (fgsCons (fgNm 3) fgsNil))) fYes (fCall 2 sf [] (fCons (fVar 2) (fCons (fVar 3) fNil)))) fNil))))) fNilS) (fSeq (fIfS (fVal (fBlt dIsi (fCons (fVar 1) (fCons (fC (.raw (.ty "int"))) fNil)))) (fRet (fAnd (fBlt dIsi (fCons (fVar 0) (fCons (fC (.raw (.ty "int"))) fNil))) (fAnd (fBin dEqX (fBlt dIsi (fCons (fVar 0) (fCons (fC (.raw (.ty "bool"))) fNil))) (fBlt dIsi (fCons (fVar 1) (fCons (fC (.raw (.ty "bool"))) fNil)))) (fBin dEqX (fVar 0) (fVar 1))))) fNilS) (fRet (fAnd (fBin dIs (fBlt dIsi (fCons (fVar 0) (fCons (fTup (fCons (fC (.raw (.ty "int"))) (fCons (fC (.raw (.ty "list"))) (fCons (fC (.raw (.ty "tuple"))) fNil)))) fNil))) (fC (.bl false))) (fBin dEqX (fVar 0) (fVar 1))))))
def r__law_same : Nat → FFn
  | 0 => fun _ => .bad
  | k + 1 => runB N__law_same (B__law_same (r__law_same k))
def f__law_same : FFn := r__law_same 6
end DL
namespace DL
open PySem PySem.Spec PyProof.Rows L2
variable [TabC]
/-! ### the program's data, typed -/
abbrev txs (xs : List Str) : D := .lst (xs.map .str)
inductive Mo where
  | clock | start (x : Str) | done (x : Str)
def Mo.d : Mo → D
  | .clock => .str "clock"
  | .start x => .tup [.str "start", .str x]
  | .done x => .tup [.str "done", .str x]
def Mo.ok (ks : List Str) : Mo → Prop
  | .clock => True
  | .start x => x ∈ ks
  | .done x => x ∈ ks
structure Wi where
  one : Mo
  other : Mo
  most : Int
def Wi.d (w : Wi) : D := .tup [w.one.d, w.other.d, .int w.most]
def Wi.ok (ks : List Str) (w : Wi) : Prop := w.one.ok ks ∧ w.other.ok ks
def bD (b : Int × Int) : D := .tup [.int b.1, .int b.2]
def rD (r : Str × Int) : D := .tup [.str r.1, .int r.2]
abbrev Dis := List (Str × Int × Int)
abbrev Row := List (Str × Str × Int)
abbrev Anc := List (Str × Str)
def mealD (l : Dis) (ws : List Wi) (st : List (List Str)) : D := .obj "Meal" [("bounds", .dic (mapD bD l)), ("wish_row", .tup (ws.map Wi.d)), ("station_row", .tup (st.map fun x => .tup (x.map .str)))]
def bookD (l : Row) : D := .obj "Book" [("pairs", .dic (mapD rD l))]
def hangD (l : Anc) : D := .obj "Hanging" [("anchors", .dic (mapD .str l))]
abbrev keys {α : Type} (l : List (Str × α)) : List Str := l.map (·.1)
/-! names -/
def isGood (x : Str) : Bool := (match f_is_name [.str x] with | .ok (.bl b) => b | _ => false) && PyData.strOk x && !(x == "clock")
structure Good (x : Str) : Prop where
  nm : f_is_name [.str x] = .ok (.bl true)
  ok : sOk x
  nc : x ≠ "clock"
theorem good_of {x : Str} (h : isGood x = true) : Good x := by
  unfold isGood at h
  rw [Bool.and_eq_true, Bool.and_eq_true] at h
  obtain ⟨⟨h1, h2⟩, h3⟩ := h
  refine ⟨?_, h2, by simpa using h3⟩
  split at h1
  · rename_i b e
    rw [e, h1]
  · cases h1
theorem clock_ok : sOk "clock" := by decide +kernel
/-! rising -/
def strLe (y x : Str) : Bool := !decide (x.cps.toList < y.cps.toList)
def insR (found : List Str) (x : Str) : List Str := found.take (found.filter fun y => strLe y x).length ++ [x] ++ found.drop (found.filter fun y => strLe y x).length
def rise (xs : List Str) : List Str := xs.foldl insR []
theorem insR_perm (found : List Str) (x : Str) : (insR found x).Perm (found ++ [x]) := by
  unfold insR
  generalize (found.filter fun y => strLe y x).length = c
  have h : (found.take c ++ ([x] ++ found.drop c)).Perm (found.take c ++ (found.drop c ++ [x])) := List.Perm.append_left _ List.perm_append_comm
  rw [← List.append_assoc, ← List.append_assoc, List.take_append_drop] at h
  exact h
theorem rise_go : ∀ (xs acc : List Str), (xs.foldl insR acc).Perm (acc ++ xs)
  | [], acc => by rw [List.append_nil]; exact List.Perm.refl _
  | x :: xs, acc => by
    have h := (rise_go xs (insR acc x)).trans ((insR_perm acc x).append_right xs)
    rw [List.append_assoc] at h
    exact h
theorem rise_perm (xs : List Str) : (rise xs).Perm xs := rise_go xs []
theorem rise_snoc (xs : List Str) (x : Str) : rise (xs ++ [x]) = insR (rise xs) x := by
  unfold rise
  rw [List.foldl_append]
  rfl
theorem rise_len (xs : List Str) : (rise xs).length = xs.length := (rise_perm xs).length_eq
theorem ins_strs (c : Nat) (found : List Str) (x : Str) : (found.map D.str).take c ++ [.str x] ++ (found.map D.str).drop c = (found.take c ++ [x] ++ found.drop c).map .str := by
  rw [List.map_append, List.map_append, List.map_take, List.map_drop]
  rfl
theorem len_pre {α : Type} {acc post L : List α} {d : α} (e : acc ++ d :: post = L) : acc.length < L.length := by
  rw [← e, List.length_append, List.length_cons]
  omega
theorem v_rising {xs : List Str} (hl : xs.length ≤ 1000) : f_rising [txs xs] = .ok (txs (rise xs)) := by
  obtain ⟨s', e, x2, x3, rfl⟩ := for_acc (g := fgNm 2) (b := b_rising_1) D.str (fun acc s => ∃ x2 x3, s = [some (txs xs), some (txs (rise acc)), x2, x3]) xs (s := [some (txs xs), some (.lst []), none, none]) ⟨_, _, rfl⟩ (fun acc d post s e ⟨x2, x3, hs⟩ => by
    subst hs
    have hn := len_pre e
    refine ⟨_, rfl, _, insE (k := ((rise acc).filter fun y => strLe y d).length) (ds := (rise acc).map .str) rfl (consE (bltE (consE (lcE (ds := (rise acc).map .str) rfl (by rw [List.length_map, rise_len]; unfold LIM; omega) (lc_filter (g := fgNm 3) (t := fBinT dLe (fVar 3) (fVar 2)) (e := fVar 3) D.str (fun y => strLe y d) D.str (rise acc) fun y hy => ⟨_, rfl, rfl, fun _ => rfl⟩)) rfl) (by show some (D.int _) = _; rw [List.length_map])) (consE rfl rfl)) (by rw [List.length_map, rise_len]; unfold LIM; omega) (by have := List.length_filter_le (fun y => strLe y d) (rise acc); rw [rise_len] at this; unfold LIM; omega), ?_⟩
    rw [ins_strs, rise_snoc]
    exact ⟨_, _, rfl⟩)
  exact runB_rt (seqN (setFE (show 1 < 4 by decide) rfl) (seqN (forE (ds := xs.map .str) rfl e) (retE rfl)))
/-! chains -/
def upN (l : Anc) : Nat → Str → List Str
  | 0, _ => []
  | k + 1, x => match l.lookup x with
    | some a => if a = "clock" then [] else a :: upN l k a
    | none => []
/-- a hanging without rounds -/
structure Acy (l : Anc) (rk : Str → Nat) : Prop where
  nd : (keys l).Nodup
  good : ∀ x ∈ keys l, Good x
  up : ∀ x a, l.lookup x = some a → a = "clock" ∨ (a ∈ keys l ∧ rk a < rk x)
  bd : ∀ x ∈ keys l, rk x < l.length
  len : l.length ≤ 100
theorem up_more {l : Anc} {rk : Str → Nat} (A : Acy l rk) : ∀ (k : Nat) (x : Str), rk x ≤ k → upN l k x = upN l (k + 1) x
  | 0, x, h => by
    show [] = (match l.lookup x with | some a => if a = "clock" then [] else a :: upN l 0 a | none => [])
    cases e : l.lookup x with
    | none => rfl
    | some a =>
      rcases A.up x a e with z | z
      · simp only [z, if_true]
      · omega
  | k + 1, x, h => by
    rw [upN]
    conv => rhs; rw [upN]
    cases e : l.lookup x with
    | none => rfl
    | some a =>
      rcases A.up x a e with z | z
      · simp only [z, if_true]
      · simp only []
        rw [up_more A k a (by omega)]
theorem up_all {l : Anc} {rk : Str → Nat} (A : Acy l rk) (x : Str) (k : Nat) (h : rk x ≤ k) : ∀ j, upN l (k + j) x = upN l k x
  | 0 => rfl
  | j + 1 => by rw [← Nat.add_assoc, ← up_more A (k + j) x (by omega), up_all A x k h j]
def chain (l : Anc) (x : Str) : List Str := upN l l.length x
theorem chain_eq {l : Anc} {rk : Str → Nat} (A : Acy l rk) {x : Str} (hx : x ∈ keys l) : chain l x = match l.lookup x with
    | some a => if a = "clock" then [] else a :: chain l a
    | none => [] := by
  have h := A.bd x hx
  have e1 : chain l x = upN l (l.length + 1) x := up_more A _ x (by omega)
  rw [e1, upN]
  rfl
theorem chain_clock {l : Anc} {rk : Str → Nat} (A : Acy l rk) {x : Str} (h : l.lookup x = some "clock") : chain l x = [] := by
  rw [chain_eq A (List.mem_map.mpr ⟨_, look_some h, rfl⟩), h]
  rfl
theorem chain_up {l : Anc} {rk : Str → Nat} (A : Acy l rk) {x a : Str} (h : l.lookup x = some a) (ha : a ≠ "clock") : chain l x = a :: chain l a := by
  rw [chain_eq A (List.mem_map.mpr ⟨_, look_some h, rfl⟩), h]
  simp only [ha, if_false]
/-- induction up the chain -/
theorem Acy.ind {l : Anc} {rk : Str → Nat} (A : Acy l rk) {p : Str → Prop} (h0 : ∀ x, l.lookup x = some "clock" → p x) (h1 : ∀ x a, l.lookup x = some a → a ≠ "clock" → a ∈ keys l → rk a < rk x → p a → p x) : ∀ x ∈ keys l, p x := by
  have key : ∀ (k : Nat) (x : Str), rk x ≤ k → x ∈ keys l → p x := by
    intro k
    induction k with
    | zero =>
      intro x hk hx
      obtain ⟨a, e⟩ := look_mem hx
      rcases A.up x a e with z | z
      · subst z; exact h0 x e
      · omega
    | succ k ih =>
      intro x hk hx
      obtain ⟨a, e⟩ := look_mem hx
      by_cases z : a = "clock"
      · subst z; exact h0 x e
      · rcases A.up x a e with z' | z'
        · exact absurd z' z
        · exact h1 x a e z z'.1 z'.2 (ih a (by omega) z'.1)
  exact fun x hx => key (rk x) x (Nat.le_refl _) hx
theorem chain_rk {l : Anc} {rk : Str → Nat} (A : Acy l rk) : ∀ x ∈ keys l, ∀ y ∈ chain l x, y ∈ keys l ∧ rk y < rk x := by
  refine A.ind (fun x e y hy => ?_) (fun x a e ha hk hr ih y hy => ?_)
  · rw [chain_clock A e] at hy; cases hy
  · rw [chain_up A e ha] at hy
    rcases List.mem_cons.mp hy with z | z
    · subst z; exact ⟨hk, hr⟩
    · have := ih y z; exact ⟨this.1, by omega⟩
theorem chain_nd {l : Anc} {rk : Str → Nat} (A : Acy l rk) : ∀ x ∈ keys l, (chain l x).Nodup := by
  refine A.ind (fun x e => ?_) (fun x a e ha hk hr ih => ?_)
  · rw [chain_clock A e]; exact List.nodup_nil
  · rw [chain_up A e ha, List.nodup_cons]
    exact ⟨fun z => by have := (chain_rk A a hk a z).2; omega, ih⟩
theorem chain_len {l : Anc} {rk : Str → Nat} (A : Acy l rk) : ∀ x ∈ keys l, (chain l x).length ≤ rk x := by
  refine A.ind (fun x e => ?_) (fun x a e ha hk hr ih => ?_)
  · rw [chain_clock A e]; exact Nat.zero_le _
  · rw [chain_up A e ha, List.length_cons]; omega
theorem lim_of {n : Nat} (h : n ≤ 1000) : n < LIM := by unfold LIM; omega
theorem v_way_go {l : Anc} {rk : Str → Nat} (A : Acy l rk) {x0 : Option D} : ∀ (k fuel : Nat) (here : Str) (found : List Str), k ≤ fuel → (here ∈ keys l → rk here < k) → (here = "clock" ∨ here ∈ keys l) → (∀ y ∈ found, y ∈ keys l ∧ (here ≠ "clock" → rk here < rk y)) → found.length + k ≤ 500 →
    ∃ h', fWhileN (fAndT (fBinT dNe (fVar 3) (fC (.str "clock"))) (fBinT dNotIn (fVar 3) (fVar 2))) b_way_up_1 (fuel + 1) [some (.dic (mapD .str l)), x0, some (txs found), some (.str here)] = .nx [some (.dic (mapD .str l)), x0, some (txs (found ++ if here = "clock" then [] else here :: chain l here)), some (.str h')] := by
  intro k
  induction k with
  | zero =>
    intro fuel here found hf hk hh hfo hl
    have e : here = "clock" := hh.resolve_right fun z => by have := hk z; omega
    subst e
    refine ⟨"clock", ?_⟩
    rw [fWhileN, andTF (binTE (x := .str "clock") (y := .str "clock") rfl rfl (dNe_str clock_ok clock_ok))]
    rw [if_pos rfl, List.append_nil]
    rfl
  | succ k ih =>
    intro fuel here found hf hk hh hfo hl
    by_cases e : here = "clock"
    · subst e
      refine ⟨"clock", ?_⟩
      rw [fWhileN, andTF (binTE (x := .str "clock") (y := .str "clock") rfl rfl (dNe_str clock_ok clock_ok))]
      rw [if_pos rfl, List.append_nil]
      rfl
    · have hin : here ∈ keys l := hh.resolve_left e
      have hr := hk hin
      have ho : sOk here := (A.good here hin).ok
      have hni : here ∉ found := fun z => by have := (hfo here z).2 e; omega
      obtain ⟨fu, rfl⟩ : ∃ fu, fuel = fu + 1 := ⟨fuel - 1, by omega⟩
      have t1 : fAndT (fBinT dNe (fVar 3) (fC (.str "clock"))) (fBinT dNotIn (fVar 3) (fVar 2)) [some (.dic (mapD .str l)), x0, some (txs found), some (.str here)] = .ok true := by
        refine andTT (binTE (x := .str here) (y := .str "clock") rfl rfl ?_) (binTE (x := .str here) (y := txs found) rfl rfl ?_)
        · rw [dNe_str ho clock_ok]; simp [e]
        · rw [dNotIn_strs ho fun y hy => (A.good y (hfo y hy).1).ok]; simp [hni]
      obtain ⟨a, ea⟩ := look_mem hin
      have b1 : b_way_up_1 [some (.dic (mapD .str l)), x0, some (txs found), some (.str here)] = .nx [some (.dic (mapD .str l)), x0, some (txs (found ++ [here])), some (.str a)] := by
        refine seqN (appE (ds := found.map .str) rfl rfl (by rw [List.length_map]; exact lim_of (by omega))) ((setE (dgetE rfl rfl rfl rfl)).trans ?_)
        rw [lookK_map, ea, show txs (found ++ [here]) = D.lst (found.map .str ++ [.str here]) by rw [txs, List.map_append]; rfl]
        rfl
      have ha := A.up here a ea
      obtain ⟨h', eh⟩ := ih fu a (found ++ [here]) (by omega) (fun z => by
        rcases ha with y | y
        · subst y; exact absurd rfl (A.good _ z).nc
        · omega) (ha.imp id (·.1)) (fun y hy => by
          rcases List.mem_append.mp hy with z | z
          · refine ⟨(hfo y z).1, fun na => ?_⟩
            have := (hfo y z).2 e
            have := (ha.resolve_left na).2
            omega
          · have z := List.mem_singleton.mp z
            subst z
            exact ⟨hin, fun na => (ha.resolve_left na).2⟩) (by rw [List.length_append, List.length_singleton]; omega)
      refine ⟨h', ?_⟩
      rw [fWhileN, t1]
      show (match b_way_up_1 _ with | .nx s2 => fWhileN _ _ (fu + 1) s2 | .ct s2 => fWhileN _ _ (fu + 1) s2 | .bk s2 => .nx s2 | o => o) = _
      rw [b1]
      show fWhileN _ _ (fu + 1) _ = _
      rw [eh, if_neg e, List.append_assoc]
      by_cases ca : a = "clock"
      · subst ca
        rw [if_pos rfl, chain_clock A ea]
        rfl
      · rw [if_neg ca, chain_up A ea ca]
        rfl
theorem v_way_up {l : Anc} {rk : Str → Nat} (A : Acy l rk) {x : Str} (hx : x ∈ keys l) : f_way_up [.dic (mapD .str l), .str x] = .ok (txs (chain l x)) := by
  obtain ⟨a, ea⟩ := look_mem hx
  have ha := A.up x a ea
  have hl := A.len
  obtain ⟨h', e⟩ := v_way_go A (x0 := some (.str x)) (l.length) 999999 a [] (by omega) (fun z => A.bd a z) (ha.imp id (·.1)) (fun y hy => by cases hy) (by simp; omega)
  refine runB_rt (seqN (setFE (show 2 < 4 by decide) rfl) (seqN (s' := [some (.dic (mapD .str l)), some (.str x), some (txs []), some (.str a)]) ?_ (seqN (s' := _) e ((retE rfl).trans ?_))))
  · refine (setE (dgetE rfl rfl rfl rfl)).trans ?_
    rw [lookK_map, ea]
    rfl
  · show SO.rt (txs ([] ++ _)) = _
    rw [List.nil_append]
    by_cases ca : a = "clock"
    · subst ca
      rw [if_pos rfl, chain_clock A ea]
    · rw [if_neg ca, chain_up A ea ca]
end DL
namespace DL
open PySem PySem.Spec PyProof.Rows L2
variable [TabC]
/-! ### what the drawing helpers promise -/
def FSp.rel (R : List D → Nat → (D → Nat → Prop) → Prop) (mn : ∀ ds n Q Q', (∀ d n', Q d n' → Q' d n') → R ds n Q → R ds n Q') : FSp := ⟨fun ds n Q _ => R ds n Q, fun ds n Q Q' _ hq h => mn ds n Q Q' hq h⟩
def NAMES : List Str := ["a", "b", "rice", "fish", "start", "done", "wish", "zz", "station", "clocks", "abcdefgh", "meal", "go", "wait", "cloc", "on"]
/-- each hangs on the clock or on what stands ahead -/
def Hung : List (Str × Str) → List Str → Prop
  | [], _ => True
  | (x, a) :: r, up => (a = "clock" ∨ a ∈ up) ∧ Hung r (up ++ [x])
def sp__law_take : FSp := sp_take (fun _ => 0)
def sp__law_one : FSp := .rel (fun ds n Q => ∃ xs, ds = [.st, .lst xs] ∧ 0 < xs.length ∧ xs.length ≤ 1000 ∧ n < 2 ^ 32 ∧ ∀ x, x ∈ xs → Q x (n + 1)) (fun _ _ _ _ hq ⟨xs, e, h1, h2, h3, q⟩ => ⟨xs, e, h1, h2, h3, fun x hx => hq _ _ (q x hx)⟩)
def sp__law_mix : FSp := .rel (fun ds n Q => ∃ xs : List D, (ds = [.st, .lst xs] ∨ ds = [.st, .tup xs]) ∧ xs.length ≤ 100 ∧ (∀ x ∈ xs, OkN 60 x) ∧ n < 2 ^ 31 ∧ ∀ ys : List D, ys.Perm xs → Q (.lst ys) (n + xs.length)) (fun _ _ _ _ hq ⟨xs, e, h1, h1b, h2, q⟩ => ⟨xs, e, h1, h1b, h2, fun ys p => hq _ _ (q ys p)⟩)
theorem perm_map {α β : Type} (f : α → β) : ∀ {ys zs : List β}, ys.Perm zs → ∀ xs : List α, zs = xs.map f → ∃ us : List α, us.Perm xs ∧ ys = us.map f := by
  intro ys zs h
  induction h with
  | nil => intro xs e; have : xs = [] := by cases xs <;> simp at e ⊢
           subst this; exact ⟨[], List.Perm.refl _, rfl⟩
  | cons x p ih =>
    intro xs e
    cases xs with
    | nil => simp at e
    | cons a xs =>
      rw [List.map_cons, List.cons.injEq] at e
      obtain ⟨us, pu, eu⟩ := ih xs e.2
      exact ⟨a :: us, pu.cons a, by rw [List.map_cons, eu, e.1]⟩
  | swap x y l =>
    intro xs e
    match xs, e with
    | a :: b :: xs, e =>
      simp only [List.map_cons, List.cons.injEq] at e
      refine ⟨b :: a :: xs, List.Perm.swap _ _ _, ?_⟩
      simp only [List.map_cons]
      rw [e.1, e.2.1, e.2.2]
  | trans p1 p2 ih1 ih2 =>
    intro xs e
    obtain ⟨us, pu, eu⟩ := ih2 xs e
    obtain ⟨vs, pv, ev⟩ := ih1 us eu
    exact ⟨vs, pv.trans pu, ev⟩
/-- .. of names -/
theorem mix_strs {n : Nat} {xs : List Str} {Q : D → Nat → Prop} {xq : XQ} (h1 : xs.length ≤ 100) (h2 : ∀ x ∈ xs, sOk x) (h3 : n < 2 ^ 31) (q : ∀ ys : List Str, ys.Perm xs → Q (txs ys) (n + xs.length)) : sp__law_mix.run [.st, txs xs] n Q xq := by
  refine ⟨xs.map .str, .inl rfl, by rw [List.length_map]; exact h1, fun d hd => ?_, h3, fun ys hp => ?_⟩
  · obtain ⟨x, hx, rfl⟩ := List.mem_map.mp hd
    exact .str (h2 x hx)
  · obtain ⟨us, pu, rfl⟩ := perm_map D.str hp xs rfl
    rw [List.length_map]
    exact q us pu
def sp__law_names : FSp := .rel (fun ds n Q => ∃ k : Nat, ds = [.st, .int (k : Int)] ∧ n < 2 ^ 31 ∧ ∀ ys : List Str, ys.Perm NAMES → Q (txs (ys.take k)) (n + 16)) (fun _ _ _ _ hq ⟨k, e, h2, q⟩ => ⟨k, e, h2, fun ys p => hq _ _ (q ys p)⟩)
def sp__law_dishes : FSp := .rel (fun ds n Q => ∃ (xs : List Str) (w : Nat), ds = [.st, txs xs, .int (w : Int)] ∧ xs.length ≤ 100 ∧ xs.Nodup ∧ (∀ x ∈ xs, PyData.strOk x = true) ∧ 0 < w ∧ w ≤ 1000000 ∧ n < 2 ^ 30 ∧
    ∀ l : Dis, (keys l).Perm xs → (∀ d ∈ l, 1 ≤ d.2.1 ∧ d.2.1 ≤ 6 ∧ d.2.1 ≤ d.2.2 ∧ d.2.2 < d.2.1 + w) → Q (.dic (mapD bD l)) (n + 3 * xs.length)) (fun _ _ _ _ hq ⟨xs, w, e, h1, h2, h3, h4, h5, h6, q⟩ => ⟨xs, w, e, h1, h2, h3, h4, h5, h6, fun l p z => hq _ _ (q l p z)⟩)
def sp__law_moment : FSp := .rel (fun ds n Q => ∃ xs : List Str, ds = [.st, txs xs] ∧ xs.length ≤ 100 ∧ (∀ x ∈ xs, PyData.strOk x = true) ∧ n < 2 ^ 30 ∧ ∀ (m : Mo) (n' : Nat), m.ok xs → n ≤ n' → n' ≤ n + 3 → Q m.d n') (fun _ _ _ _ hq ⟨xs, e, h1, h2, h3, q⟩ => ⟨xs, e, h1, h2, h3, fun m n' a b c => hq _ _ (q m n' a b c)⟩)
def sp__law_wishes : FSp := .rel (fun ds n Q => ∃ (xs : List Str) (k : Nat), ds = [.st, txs xs, .int (k : Int)] ∧ xs.length ≤ 100 ∧ (∀ x ∈ xs, PyData.strOk x = true) ∧ k ≤ 100 ∧ n < 2 ^ 29 ∧
    ∀ (ws : List Wi) (n' : Nat), ws.length ≤ k → (∀ w ∈ ws, w.ok xs) → n ≤ n' → n' ≤ n + 1 + 10 * k → Q (.lst (ws.map Wi.d)) n') (fun _ _ _ _ hq ⟨xs, k, e, h1, h2, h3, h4, q⟩ => ⟨xs, k, e, h1, h2, h3, h4, fun m n' a b c d => hq _ _ (q m n' a b c d)⟩)
def sp__law_hung : FSp := .rel (fun ds n Q => ∃ xs : List Str, ds = [.st, txs xs] ∧ xs.length ≤ 100 ∧ xs.Nodup ∧ (∀ x ∈ xs, PyData.strOk x = true) ∧ n < 2 ^ 30 ∧
    ∀ l : List (Str × Str), (l.map (·.1)).Perm xs → Hung l [] → Q (.dic (mapD .str l)) (n + 2 * xs.length)) (fun _ _ _ _ hq ⟨xs, e, h1, h2, h3, h4, q⟩ => ⟨xs, e, h1, h2, h3, h4, fun l p z => hq _ _ (q l p z)⟩)
def sp__law_waiting : FSp := .rel (fun ds n Q => ∃ l : List (Str × Str), ds = [.st, .dic (mapD .str l)] ∧ l.length ≤ 100 ∧ (l.map (·.1)).Nodup ∧ n < 2 ^ 30 ∧
    ∀ r : Row, r.map (fun r => (r.1, r.2.1)) = l → (∀ x ∈ r, 0 ≤ x.2.2 ∧ x.2.2 < 8) → Q (.dic (mapD rD r)) (n + l.length)) (fun _ _ _ _ hq ⟨l, e, h1, h2, h3, q⟩ => ⟨l, e, h1, h2, h3, fun r p z => hq _ _ (q r p z)⟩)
end DL
namespace DL
open PySem PySem.Spec PyProof.Rows L2
variable [TabC]
abbrev N__law_one : List Str := ["_law_state", "_law_things"]
def B__law_one : SM :=
  (sRet (eBin dIdx (up (fVar 1)) (eCall 2 sp__law_take [] (up (fCons (fVar 0) (fCons (fBlt dLen (fCons (fVar 1) fNil)) fNil))))))
abbrev N__law_mix : List Str := ["_law_state", "_law_things", "_law_left", "_law_found"]
def B__law_mix : SM :=
  (sSeq (upS (fParFF 2 3 (fBlt dList (fCons (fVar 1) fNil)) (fLst fNil))) (sSeq (sWhile (up (fBinT dNe (fVar 2) (fLst fNil))) (sAppPop 3 2 (eCall 2 sp__law_take [] (up (fCons (fVar 0) (fCons (fBlt dLen (fCons (fVar 2) fNil)) fNil)))))) (upS (fRet (fVar 3)))))
abbrev N__law_names : List Str := ["_law_state", "_law_many", "_law_some"]
def B__law_names : SM :=
  (sSeq (upS (fSet 2 (fLst (fCons (fC (.str "a")) (fCons (fC (.str "b")) (fCons (fC (.str "rice")) (fCons (fC (.str "fish")) (fCons (fC (.str "start")) (fCons (fC (.str "done")) (fCons (fC (.str "wish")) (fCons (fC (.str "zz")) fNil))))))))))) (sRet (eSl (eCall 2 sp__law_mix [] (up (fCons (fVar 0) (fCons (fBin dAdd (fVar 2) (fLst (fCons (fC (.str "station")) (fCons (fC (.str "clocks")) (fCons (fC (.str "abcdefgh")) (fCons (fC (.str "meal")) (fCons (fC (.str "go")) (fCons (fC (.str "wait")) (fCons (fC (.str "cloc")) (fCons (fC (.str "on")) fNil)))))))))) fNil)))) (up fNone) (up (fSome (fVar 1))))))
abbrev N__law_dishes : List Str := ["_law_state", "_law_names_here", "_law_wide", "_law_found", "_law_name", "_law_least"]
def B__law_dishes : SM :=
  (sSeq (upS (fSetF 3 (fC (.dic [])))) (sSeq (sFor (eIter (eCall 2 sp__law_mix [] (up (fCons (fVar 0) (fCons (fVar 1) fNil))))) (upG (fgNm 4)) (sSeq (sSet 5 (eBin dAdd (up (fC (.int 1))) (eCall 2 sp__law_take [] (up (fCons (fVar 0) (fCons (fC (.int 6)) fNil)))))) (sDput 3 (up (fVar 4)) (eTup (eCons (up (fVar 5)) (eCons (eBin dAdd (up (fVar 5)) (eCall 2 sp__law_take [] (up (fCons (fVar 0) (fCons (fVar 2) fNil))))) (up fNil))))))) (upS (fRet (fVar 3)))))
abbrev N__law_moment : List Str := ["_law_state", "_law_names_here"]
def B__law_moment : SM :=
  (sSeq (sIf (tOrD (up (fBinT dEq (fVar 1) (fLst fNil))) (eBinT dEq (eCall 2 sp__law_take [] (up (fCons (fVar 0) (fCons (fC (.int 6)) fNil)))) (up (fC (.int 0))))) (upS (fRet (fC (.str "clock")))) (upS fNilS)) (sRet (eTup (eCons (eCall 2 sp__law_one [] (up (fCons (fVar 0) (fCons (fLst (fCons (fC (.str "done")) (fCons (fC (.str "start")) (fCons (fC (.str "done")) fNil)))) fNil)))) (eCons (eCall 2 sp__law_one [] (up (fCons (fVar 0) (fCons (fVar 1) fNil)))) (up fNil))))))
abbrev N__law_wishes : List Str := ["_law_state", "_law_names_here", "_law_many", "_law_found", "_law_k", "_law_sort", "_law_most", "_law_one_here", "_law_other"]
def B__law_wishes : SM :=
  (sSeq (upS (fSetF 3 (fLst fNil))) (sSeq (sFor (eRange1 (eCall 2 sp__law_take [] (up (fCons (fVar 0) (fCons (fBin dAdd (fVar 2) (fC (.int 1))) fNil))))) (upG (fgNm 4)) (sSeq (sPar 5 6 (eCall 2 sp__law_take [] (up (fCons (fVar 0) (fCons (fC (.int 5)) fNil)))) (eCall 2 sp__law_take [] (up (fCons (fVar 0) (fCons (fC (.int 12)) fNil))))) (sSeq (sPar 7 8 (eCall 2 sp__law_moment [] (up (fCons (fVar 0) (fCons (fVar 1) fNil)))) (eCall 2 sp__law_moment [] (up (fCons (fVar 0) (fCons (fVar 1) fNil))))) (sSeq (sIf (up (fAndT (fBinT dLt (fVar 5) (fC (.int 2))) (fBinT dNe (fVar 1) (fLst fNil)))) (sPar 7 8 (eTup (eCons (up (fC (.str "done"))) (eCons (eCall 2 sp__law_one [] (up (fCons (fVar 0) (fCons (fVar 1) fNil)))) (up fNil)))) (eTup (eCons (up (fC (.str "done"))) (eCons (eCall 2 sp__law_one [] (up (fCons (fVar 0) (fCons (fVar 1) fNil)))) (up fNil))))) (sIf (up (fAndT (fBinT dEq (fVar 5) (fC (.int 2))) (fBinT dNe (fVar 1) (fLst fNil)))) (sPar3 7 8 6 (up (fC (.str "clock"))) (eTup (eCons (up (fC (.str "done"))) (eCons (eCall 2 sp__law_one [] (up (fCons (fVar 0) (fCons (fVar 1) fNil)))) (up fNil)))) (up (fBin dAdd (fC (.int 8)) (fBin dMul (fC (.int 2)) (fVar 6))))) (upS fNilS))) (upS (fApp 3 (fTup (fCons (fVar 7) (fCons (fVar 8) (fCons (fIf (fBinT dGt (fVar 5) (fC (.int 2))) (fBin dSub (fVar 6) (fC (.int 4))) (fVar 6)) fNil)))))))))) (upS (fRet (fVar 3)))))
abbrev N__law_hung : List Str := ["_law_state", "_law_names_here", "_law_row", "_law_found", "_law_k", "_law_name"]
def B__law_hung : SM :=
  (sSeq (sParEF 2 3 (eCall 2 sp__law_mix [] (up (fCons (fVar 0) (fCons (fVar 1) fNil)))) (up (fC (.dic [])))) (sSeq (sFor (up (fEnum (fVar 2))) (upG (fgTp (fgsCons (fgNm 4) (fgsCons (fgNm 5) fgsNil)))) (sDput 3 (up (fVar 5)) (eCall 2 sp__law_one [] (up (fCons (fVar 0) (fCons (fBin dAdd (fLst (fCons (fC (.str "clock")) fNil)) (fSl (fVar 2) fNone (fSome (fVar 4)))) fNil)))))) (upS (fRet (fVar 3)))))
abbrev N__law_waiting : List Str := ["_law_state", "_law_anchors", "_law_name"]
def B__law_waiting : SM :=
  (sRet (eBlt dDict (eCons (eLcD (fun s => (s[1]?).join) keysD [2] (upG (fgNm 2)) (up fYes) (eTup (eCons (up (fVar 2)) (eCons (eTup (eCons (up (fBin dIdx (fVar 1) (fVar 2))) (eCons (eCall 2 sp__law_take [] (up (fCons (fVar 0) (fCons (fC (.int 8)) fNil)))) (up fNil)))) (up fNil))))) (up fNil))))
end DL
namespace DL
open PySem PySem.Spec PyProof.Rows L2
variable [TabC]
def sp__law_meal : FSp := .rel (fun ds n Q => ∃ (k w m : Nat), ds = [.st, .int (k : Int), .int (w : Int), .int (m : Int)] ∧ 0 < w ∧ w ≤ 1000000 ∧ m ≤ 100 ∧ n < 2 ^ 28 ∧
    ∀ (l : Dis) (ws : List Wi) (n' : Nat), (keys l).Nodup → (∀ x ∈ keys l, x ∈ NAMES) → l.length = min k 16 → (∀ d ∈ l, 1 ≤ d.2.1 ∧ d.2.1 ≤ 6 ∧ d.2.1 ≤ d.2.2 ∧ d.2.2 < d.2.1 + w) → ws.length ≤ m → (∀ x ∈ ws, x.ok (keys l)) → n ≤ n' → n' ≤ n + 65 + 10 * m → Q (.tup [.dic (mapD bD l), .lst (ws.map Wi.d)]) n')
  (fun _ _ _ _ hq ⟨k, w, m, e, h1, h2, h3, h4, q⟩ => ⟨k, w, m, e, h1, h2, h3, h4, fun l ws n' a b c d e f g h => hq _ _ (q l ws n' a b c d e f g h)⟩)
end DL
namespace DL
open PySem PySem.Spec PyProof.Rows L2
variable [TabC]
abbrev N__law_meal : List Str := ["_law_state", "_law_many", "_law_wide", "_law_wishes_here", "_law_names_here", "_law_dishes_here"]
def B__law_meal : SM :=
  (sSeq (sSet 4 (eCall 2 sp__law_names [] (up (fCons (fVar 0) (fCons (fVar 1) fNil))))) (sSeq (sSet 5 (eCall 3 sp__law_dishes [] (up (fCons (fVar 0) (fCons (fVar 4) (fCons (fVar 2) fNil)))))) (sRet (eTup (eCons (up (fVar 5)) (eCons (eCall 3 sp__law_wishes [] (up (fCons (fVar 0) (fCons (fVar 4) (fCons (fVar 3) fNil))))) (up fNil)))))))
abbrev N_Hanging___init__ : List Str := ["self", "rows", "name", "anchor"]
def b_Hanging___init___1 : FS := (fIfS (fOrT (fNotT (fVal (fCall 1 f_is_name [] (fCons (fVar 2) fNil)))) (fNotT (fVal (fCall 2 f_is_anchor [] (fCons (fVar 3) (fCons (fVar 1) fNil)))))) (fRaise "BadRow" ["name"] (fCons (fVar 2) fNil)) fNilS)
def B_Hanging___init__ : FS :=
  (fSeq (fForD (fun s => (s[1]?).join) itemsD (fgTp (fgsCons (fgNm 2) (fgsCons (fgNm 3) fgsNil))) (b_Hanging___init___1)) (fSeq (fDrop (fCall 1 f_check_rounds [] (fCons (fVar 1) fNil))) (fFldS 0 "Hanging" "anchors" (fDc (fIter (fCall 1 f_rising [] (fCons (fBlt dList (fCons (fVar 1) fNil)) fNil))) [2] (fgNm 2) fYes (fVar 2) (fBin dIdx (fVar 1) (fVar 2))))))
def f_Hanging___init__ : FFn := runI "Hanging" N_Hanging___init__ B_Hanging___init__
abbrev N_check_both : List Str := ["meal", "one", "other"]
def B_check_both : FS :=
  (fSeq (fDrop (fCall 2 f_check_alike [] (fCons (fFld "Meal" "bounds" (fVar 0)) (fCons (fFld "Book" "pairs" (fVar 1)) fNil)))) (fDrop (fCall 2 f_check_alike [] (fCons (fFld "Meal" "bounds" (fVar 0)) (fCons (fFld "Book" "pairs" (fVar 2)) fNil)))))
def f_check_both : FFn := runB N_check_both B_check_both
abbrev N_ways_of : List Str := ["one", "other", "name", "way", "later", "dish"]
def B_ways_of : FS :=
  (fSeq (fAsg (fTup (fCons (fCall 2 f_way_up [] (fCons (fCall 1 f_anchors_of [] (fCons (fVar 0) fNil)) (fCons (fVar 2) fNil))) (fCons (fCall 2 f_way_up [] (fCons (fCall 1 f_anchors_of [] (fCons (fVar 1) fNil)) (fCons (fVar 2) fNil))) fNil))) (fgTp (fgsCons (fgNm 3) (fgsCons (fgNm 4) fgsNil)))) (fRet (fTup (fCons (fLc (fIter (fVar 3)) [5] (fgNm 5) (fBinT dNotIn (fVar 5) (fVar 4)) (fVar 5)) (fCons (fLc (fIter (fVar 4)) [5] (fgNm 5) (fBinT dNotIn (fVar 5) (fVar 3)) (fVar 5)) fNil)))))
def f_ways_of : FFn := runB N_ways_of B_ways_of
abbrev N_lag : List Str := ["meal", "one", "other", "name", "most", "mine", "theirs", "dish"]
def B_lag : FS :=
  (fSeq (fAsg (fCall 3 f_ways_of [] (fCons (fVar 1) (fCons (fVar 2) (fCons (fVar 3) fNil)))) (fgTp (fgsCons (fgNm 5) (fgsCons (fgNm 6) fgsNil)))) (fSeq (fSet 4 (fBin dAdd (fMeth "Book" "added" 2 f_Book_added [] (fVar 1) (fCons (fVar 3) fNil)) (fBlt dSum (fCons (fLc (fIter (fVar 5)) [7] (fgNm 7) fYes (fBin dIdx (fBin dIdx (fFld "Meal" "bounds" (fVar 0)) (fVar 7)) (fC (.int 1)))) fNil)))) (fRet (fBin dSub (fBin dSub (fVar 4) (fMeth "Book" "added" 2 f_Book_added [] (fVar 2) (fCons (fVar 3) fNil))) (fBlt dSum (fCons (fLc (fIter (fVar 6)) [7] (fgNm 7) fYes (fBin dIdx (fBin dIdx (fFld "Meal" "bounds" (fVar 0)) (fVar 7)) (fC (.int 0)))) fNil))))))
def f_lag : FFn := runB N_lag B_lag
abbrev N_never_later : List Str := ["meal", "one", "other", "name"]
def B_never_later : FS :=
  (fSeq (fDrop (fCall 3 f_check_both [] (fCons (fVar 0) (fCons (fVar 1) (fCons (fVar 2) fNil))))) (fRet (fBlt dAll (fCons (fLcD (fun s => ((fun s => (s[0]?).join) s).bind (fldD "Meal" "bounds")) keysD [3] (fgNm 3) fYes (fBin dLe (fCall 4 f_lag [] (fCons (fVar 0) (fCons (fVar 1) (fCons (fVar 2) (fCons (fVar 3) fNil))))) (fC (.int 0)))) fNil))))
def f_never_later : FFn := runB N_never_later B_never_later
abbrev N_lag_times : List Str := ["meal", "one", "other", "name", "mine", "dish"]
def B_lag_times : FS :=
  (fSeq (fSet 4 (fBin dIdx (fCall 3 f_ways_of [] (fCons (fVar 1) (fCons (fVar 2) (fCons (fVar 3) fNil)))) (fC (.int 0)))) (fRet (fDcD (fun s => ((fun s => (s[0]?).join) s).bind (fldD "Meal" "bounds")) keysD [5] (fgNm 5) fYes (fVar 5) (fBin dIdx (fBin dIdx (fFld "Meal" "bounds" (fVar 0)) (fVar 5)) (fIf (fBinT dIn (fVar 5) (fVar 4)) (fC (.int 1)) (fC (.int 0)))))))
def f_lag_times : FFn := runB N_lag_times B_lag_times
abbrev N_parting : List Str := ["meal", "one", "other", "name"]
def b_parting_1 : FS := (fSeq (fIfS (fBinT dGt (fCall 4 f_lag [] (fCons (fVar 0) (fCons (fVar 1) (fCons (fVar 2) (fCons (fVar 3) fNil))))) (fC (.int 0))) (fRet (fTup (fCons (fVar 3) (fCons (fCall 4 f_lag_times [] (fCons (fVar 0) (fCons (fVar 1) (fCons (fVar 2) (fCons (fVar 3) fNil))))) fNil)))) fNilS) (fIfS (fBinT dGt (fCall 4 f_lag [] (fCons (fVar 0) (fCons (fVar 2) (fCons (fVar 1) (fCons (fVar 3) fNil))))) (fC (.int 0))) (fRet (fTup (fCons (fVar 3) (fCons (fCall 4 f_lag_times [] (fCons (fVar 0) (fCons (fVar 2) (fCons (fVar 1) (fCons (fVar 3) fNil))))) fNil)))) fNilS))
def B_parting : FS :=
  (fSeq (fDrop (fCall 3 f_check_both [] (fCons (fVar 0) (fCons (fVar 1) (fCons (fVar 2) fNil))))) (fSeq (fForD (fun s => ((fun s => (s[0]?).join) s).bind (fldD "Meal" "bounds")) keysD (fgNm 3) (b_parting_1)) (fRet (fC .non))))
def f_parting : FFn := runB N_parting B_parting
abbrev N_same : List Str := ["meal", "one", "other"]
def B_same : FS :=
  (fRet (fBin dIs (fCall 3 f_parting [] (fCons (fVar 0) (fCons (fVar 1) (fCons (fVar 2) fNil)))) (fC .non)))
def f_same : FFn := runB N_same B_same
abbrev N_gains : List Str := ["meal", "one", "other", "name"]
def B_gains : FS :=
  (fSeq (fDrop (fCall 3 f_check_both [] (fCons (fVar 0) (fCons (fVar 1) (fCons (fVar 2) fNil))))) (fRet (fDcD (fun s => ((fun s => (s[0]?).join) s).bind (fldD "Meal" "bounds")) keysD [3] (fgNm 3) fYes (fVar 3) (fTup (fCons (fBin dSub (fC (.int 0)) (fCall 4 f_lag [] (fCons (fVar 0) (fCons (fVar 1) (fCons (fVar 2) (fCons (fVar 3) fNil)))))) (fCons (fCall 4 f_lag [] (fCons (fVar 0) (fCons (fVar 2) (fCons (fVar 1) (fCons (fVar 3) fNil))))) fNil))))))
def f_gains : FFn := runB N_gains B_gains
end DL
namespace DL
open PySem PySem.Spec PyProof.Rows L2
variable [TabC]
def sp__law_some : FSp := .rel (fun ds n Q => ∃ xs : List D, ds = [.st, .lst xs] ∧ xs.length ≤ 100 ∧ n < 2 ^ 30 ∧ ∀ ys : List D, ys.Sublist xs → Q (.lst ys) (n + xs.length)) (fun _ _ _ _ hq ⟨xs, e, h1, h2, q⟩ => ⟨xs, e, h1, h2, fun ys p => hq _ _ (q ys p)⟩)
end DL
namespace DL.K34
open PySem PySem.Spec PyProof.Rows L2
variable [TabC]
def ODD : List D := [.non, .int 5, .str "", .str "Rice", .str "zzzz", .str "clock", .tup [.str "a"], .bl true, .lst [.str "b"], .dic []]
def sp__law_spoilt : FSp := .rel (fun ds n Q => ∃ nm : List Str, ds = [.st, txs nm] ∧ nm.length ≤ 10 ∧ (∀ x ∈ nm, sOk x) ∧ n < 2 ^ 28 ∧
    ∀ (pre : List Str) (first : D) (rest : List D) (n' : Nat), (∀ x ∈ pre, x ∈ nm) → pre.length ≤ 10 → first ∈ ODD → rest.length ≤ 20 → n ≤ n' → n' ≤ n + 40 → Q (.tup [.lst (pre.map .str ++ first :: rest), first]) n') (fun _ _ _ _ hq ⟨nm, e, h1, h2, h3, q⟩ => ⟨nm, e, h1, h2, h3, fun a b c d e f g h i j => hq _ _ (q a b c d e f g h i j)⟩)
end DL.K34
/-! the def that tells whether what it got raises an error of one class -/
namespace TR
open PySem PySem.Spec PyProof.Rows L2
def TUn (K : PySem.W.Frag) (C : Addr) : (XK → Hp → VK → Prop) → Hp → VK → Prop := fun tl H Q => ∃ Ech : XK, (∀ cls d H', Ech cls d H' → PySem.W.exmOne K cls (.ref C) = some true ∧ Q (.bl true) H') ∧ tl Ech H fun _ H' => Q (.bl false) H'
section
variable {X : Cx}
theorem unlike_gives {Ng : List Str} {x a q e : Str} {sg : Scope} {g C : Addr} {cdg : Value} {k1 k2 : Nat} {p1 p2 p3 q1 q2 q3 q4 q5 q6 q7 : Pos}
    (nd : Ng.Nodup)
    (hsw2 : ∀ s H, swapsWith (.Call (.Name a p1) [] [] p2) none p3.line (ZX X Ng x sg g cdg s H).env = pure false := by intros; rfl)
    (hn : ∀ s H, Names (ZX X Ng x sg g cdg s H) e (.ref C)) :
    LamX.GivesTo X Ng x sg g cdg [.Try [.Expr (.Call (.Name a p1) [] [] p2) p3] [.ExceptHandler (some (.Name e q1)) none [.Return (some (.Constant (.bool true) k1 q2)) q3] q4] [] [] q5, .Return (some (.Constant (.bool false) k2 q6)) q7] a q (TUn X.K C) := by
  intro f c' s H Q tl act hc h
  obtain ⟨Ech, hE, htl⟩ := h
  let D0 : Ends := { nx := fun _ H' => Q .non H', rt := Q }
  let D1 : Ends := { D0 with nx := fun σ H => tRet (tC (.bl false)) D0 σ H }
  refine ⟨_, pss_cons (ps_try_mix (X := ZX X Ng x sg g cdg s H) (Wout := fun _ _ _ _ => False) (l := [(.ref C, none, fun _ _ _ => tRet (tC (.bl true)))])
      (tb := fun W D σ H => ∃ Ec : XK, (∀ cls d σ' H', Ec cls d H' → σ'.length = Ng.length → W cls d σ' H') ∧ σ[0]? = some (some (.ref f)) ∧ H c' = some (LamX.CodeO c' q) ∧ tl Ec H fun _ H1 => D.nx σ H1)
      rfl rfl nd LamX.takes0 (fun W pn xe tk _ => ⟨fun pins s' σ H' D I h' => ?_⟩) (.cons (hn s H) trivial (fun a oe cls d pn _ _ => pss_one (ps_ret pe_bl)) .nil)) (pss_one (ps_ret pe_bl)), ?_⟩
  · obtain ⟨Ec, hW, e0, ec, ht⟩ := h'
    have hp := act (fun c d σ H => σ.length = Ng.length → W c d σ H) pn xe Ec p1 p2 (takes_len (X := (ZX X Ng x sg g cdg s H).tr pn xe) tk) hW
    exact (pss_one (ps_expr hp (hsw2 s H))).run pins s' σ H' D I ⟨e0, ec, ht⟩
  · refine ⟨Ech, fun cls d σ' H' z hz => ?_, rfl, hc, htl⟩
    obtain ⟨z1, z2⟩ := hE cls d H' z
    exact ⟨true, z1, fun _ a ha => z2, fun y => nomatch y⟩
theorem unlike_givesK {K : PySem.W.Frag} (hK : X.K = K) {Ng : List Str} {x a q e : Str} {sg : Scope} {g C : Addr} {cdg : Value} {k1 k2 : Nat} {p1 p2 p3 q1 q2 q3 q4 q5 q6 q7 : Pos}
    (nd : Ng.Nodup)
    (hsw2 : ∀ s H, swapsWith (.Call (.Name a p1) [] [] p2) none p3.line (ZX X Ng x sg g cdg s H).env = pure false := by intros; rfl)
    (hn : ∀ s H, Names (ZX X Ng x sg g cdg s H) e (.ref C)) :
    LamX.GivesTo X Ng x sg g cdg [.Try [.Expr (.Call (.Name a p1) [] [] p2) p3] [.ExceptHandler (some (.Name e q1)) none [.Return (some (.Constant (.bool true) k1 q2)) q3] q4] [] [] q5, .Return (some (.Constant (.bool false) k2 q6)) q7] a q (TUn K C) := by
  subst hK
  exact unlike_gives nd hsw2 hn
end
end TR
namespace DL
open PySem PySem.Spec PyProof.Rows L2 LamX TR
variable [TabC]
/-- the def x that asks whether what it got raises C -/
structure GUn (P : Program) (w : World) (K : PySem.W.Frag) (mg : Str → Option Value) (base : Heap) (x C : Str) : Prop where
  ex : ∃ (Ng : List Str) (a : Str) (sg : Scope) (g : Addr) (oc : Value) (od : Option Addr) (pg : Arguments) (bg : List Stmt) (dV kV doc pm : Value) (an : Option Addr) (cdv ct : Value) (osl : Array (Option Value)),
    mg x = some (.ref g) ∧ PySem.W.keepIn K (.ref g) = true ∧ K.lookup g = some ⟨oc, od, .func (PySem.W.fnOf x x pg bg sg dV kV doc pm an cdv ct), osl⟩ ∧ PySem.W.codeIn K cdv x = true ∧ L2.Binds K (PySem.W.fnOf x x pg bg sg dV kV doc pm an cdv ct) [a] [] ∧ FnScope Ng [a] sg ∧ Ng[0]? = some a ∧ Vis sg a ∧
    (a == ("__debug__" : Str)) = false ∧ (a == ("__classdict__" : Str)) = false ∧ ∀ X : Cx, X.prog = P → X.w = w → X.K = K → X.mg = mg → X.base = base → ∀ q, GivesTo X Ng x sg g cdv bg a q (TUn K (He.ga K C))
  exm : PySem.W.exmOne K (.ref (He.ga K C)) (.ref (He.ga K C)) = some true
def eUn (C : Str) (O : List Nat) (m : EM D) : EM D := fun xq s n Q => ∃ (xq0 : XQ) (Q0 : D → Nat → Prop), (∀ x n', xq0 x n' → x.1 = C ∧ Q (.bl true) n') ∧ (∀ d n', Q0 d n' → Q (.bl false) n') ∧ m xq0 (hideL s O) n Q0
theorem mn_un {C : Str} {O : List Nat} {m : EM D} : Mn (eUn C O m) := fun xq s n Q Q' hq ⟨x0, q0, h1, h2, h3⟩ => ⟨x0, q0, fun x n' z => ⟨(h1 x n' z).1, hq _ _ (h1 x n' z).2⟩, fun d n' z => hq _ _ (h2 d n' z), h3⟩
section
variable {X : Cx} {E : XK} {O : List Nat} {x C : Str} {params : Arguments} {body : Expr} {scope : Scope} {m : EM D} {k k' : Nat} {p lpos pos : Pos} {c P : Addr}
theorem ve_un (G : GUn X.prog X.w X.K X.mg X.base x C) (hg : Gl X x) (TB : TabB X.base X.mg c P) (hcode : X.env.code = .ref c) (hmT : (P, X.env.qual ++ "<lambda>") ∈ TabC.T) (hu : ∀ p ∈ TabC.T, p.1 = P → p.2 = X.env.qual ++ "<lambda>") (hr : Room k' X.A) (hk : k + 2 ≤ k')
    (L0 : LamS X.env.scope scope) (hdef : defaultsOf params X.env = ([], [])) (hbind : ∀ (q : Str) (cl : List (Str × Addr)) (pm cv ctv : Value), bindArgs (PySem.W.kla_fn "<lambda>" q params body scope cl pm cv ctv) ⟨[], []⟩ = pure [])
    (hL : ∀ (A : Around) (outer : List Env) (s : Shared) (H : Hp) (E : XK) (f c' : Addr), Room k (A.deeper (lamEnv X scope s.heap.objs.size f c')) → VE (lamCx X A outer s H E scope f c') (EU H E) [] body m)
    (hdb : (x == ("__debug__" : Str)) = false := by decide) : VE X E O (.Call (.Name x p) [.Lambda params body scope lpos] [] pos) (eUn C O m) := by
  obtain ⟨Ng, a, sg, g, oc, od, pg, bg, dV, kV, doc, pm, an, cdv, ct, osl, h1, h2, h3, h4, h5, h6, h7, h8, h9, h10, hG⟩ := G.ex
  let Ok (E : XK) (z : LC) : Prop := Room k (z.1.deeper (lamEnv X scope z.2.2.1.heap.objs.size z.2.2.2.2.1 z.2.2.2.2.2))
  have hc : ∀ (E : XK) (z : LC) (h : Ok E z), VE (lamCx X z.1 z.2.1 z.2.2.1 z.2.2.2.1 E scope z.2.2.2.2.1 z.2.2.2.2.2) (EU z.2.2.2.1 E) [] body m := fun E z h => hL z.1 z.2.1 z.2.2.1 z.2.2.2.1 E _ _ h
  let t (E : XK) : TE := fun σ H Q => ∀ (z : LC) (h : Ok E z), Classical.choose (hc E z h).2 σ H Q
  have hbody : ∀ (A : Around) (outer : List Env) (s : Shared) (H : Hp) (E : XK) (f c' : Addr), Room k (A.deeper (lamEnv X scope s.heap.objs.size f c')) → PE (lamCx X A outer s H E scope f c') body (t E) := fun A outer s H E f c' hr =>
    ⟨fun pins s1 σ H1 Q I q => (Classical.choose_spec (hc E (A, outer, s, H, f, c') hr).2).1.run pins s1 σ H1 Q I (q (A, outer, s, H, f, c') hr)⟩
  refine ⟨mn_un, _, pe_tried (k := k) hg h1 h2 h3 h4 h5 h6 h7 h8 (hG X rfl rfl rfl rfl rfl _) TB hcode hmT hu (DL.Room.le hr hk) L0 hdef hbind hbody hdb h9 h10, fun aS A0 H0 σ H s n xq Q S L hm => ?_⟩
  obtain ⟨xq0, Q0, hx, hq, hmm⟩ := hm
  have tb0 : TbA H := by
    obtain ⟨_, _, _, _, _, _, _, _, _, _, _, _, _, _, _, z⟩ := S.st
    exact z
  refine ⟨tb0, fun H1 kp tb => ?_⟩
  have S1 := S.step (kps_of kp) (S.st.kpa kp tb)
  have S2 := S1.seal
  have eA : AV aS (AV aS A0 O σ) [] [] = AV aS A0 O σ := AV.of AV.st
  have eB : AV aS (AV aS A0 O σ) [] σ = AV aS A0 O σ := by
    funext b
    refine propext ⟨fun z => ?_, fun z => .inl z⟩
    rcases z with z | z | ⟨j, hj, _⟩
    · exact z
    · exact .inr (.inl z)
    · cases hj
  let Ech : XK := fun cls d H' => ∃ (fs : List (Str × D)) (n' : Nat), cls = .ref (He.ga X.K C) ∧ KpS aS H1 H' ∧ StA X.K aS H' n' ∧ xq0 (C, fs) n'
  have LE : LX X.K Ech aS (AV aS A0 O σ) H1 xq0 := fun C1 fs n' d H' k1 st1 r1 q1 => by
    have e : C1 = C := (hx _ _ q1).1
    subst e
    exact ⟨fs, n', rfl, k1, st1, q1⟩
  refine ⟨Ech, fun cls d H' z => ?_, fun z h => ?_⟩
  · obtain ⟨fs, n', ec, k1, st1, q1⟩ := z
    subst ec
    exact ⟨G.exm, (hx _ _ q1).2 _ _ ((kps_of kp).trans k1) st1 rep_bl⟩
  · refine (Classical.choose_spec (hc Ech z h).2).2 aS ⟨AV aS A0 O σ, none⟩ H1 σ H1 (hideL s O) n xq0 _ S2 LE.eu ((hc Ech z h).1 _ _ _ _ _ (fun d n' q v H' k1 st1 r1 => ?_) hmm)
    exact hq d n' q _ H' ((kps_of kp).trans k1) st1 rep_bl
end
/-! as plain functions -/
def fTried (ok : OKF) (hs : HS) (O : List Nat) (f : FM D) : FM D := fun s => match f (hideL s O) with
  | .ok d => .ok (okD1 ok d)
  | .ex x => ofO ((hpick hs x.1).bind fun hv => hvD hv x.2)
  | .bad => .bad
theorem le_tried {ok : OKF} {hs : HS} {O : List Nat} {f : FM D} : ∀ xq s n Q, up (fTried ok hs O f) xq s n Q → eTried ok hs O (up f) xq s n Q := fun xq s n Q h => by
  refine ⟨fun x n' => ∃ hv d, hpick hs x.1 = some hv ∧ hvD hv x.2 = some d ∧ Q d n', fun d n' => Q (okD1 ok d) n', fun x n' z => z, fun d n' z => z, ?_⟩
  unfold up fTried at h
  unfold up
  cases e : f (hideL s O) with
  | ok d => rw [e] at h; exact h
  | ex x =>
    rw [e] at h
    obtain ⟨d, e1, q⟩ := wp_ofO h
    obtain ⟨hv, e2, e3⟩ := Option.bind_eq_some_iff.mp e1
    exact ⟨hv, d, e2, e3, q⟩
  | bad => rw [e] at h; exact h.elim
def fUn (C : Str) (O : List Nat) (f : FM D) : FM D := fun s => match f (hideL s O) with
  | .ok _ => .ok (.bl false)
  | .ex x => if x.1 = C then .ok (.bl true) else .bad
  | .bad => .bad
theorem le_un {C : Str} {O : List Nat} {f : FM D} : ∀ xq s n Q, up (fUn C O f) xq s n Q → eUn C O (up f) xq s n Q := fun xq s n Q h => by
  refine ⟨fun x n' => x.1 = C ∧ Q (.bl true) n', fun d n' => Q (.bl false) n', fun x n' z => z, fun d n' z => z, ?_⟩
  unfold up fUn at h
  unfold up
  cases e : f (hideL s O) with
  | ok d => rw [e] at h; exact h
  | ex x =>
    rw [e] at h
    exact wp_dec h
  | bad => rw [e] at h; exact h.elim
end DL
namespace DL
open PySem PySem.Spec PyProof.Rows L2 LamX
variable [TabC]
/-! ### defs that make lambdas: their code object is known -/
section
variable {P : Program} {w : World} {K : PySem.W.Frag} {mg : Str → Option Value} {base : Heap} {x qual : Str} {params : Arguments} {body : List Stmt} {scope : Scope} {dvs : List V} {kws : List (Str × V)} {f : Addr} {fd : FuncData}
theorem okC {CX : CXT} {N ps : List Str} {k : Nat} {sp : Sp} {p : He.Defn} (F : FunD K x qual params body scope dvs kws f fd) (hf : f = He.fAd K p) (S : FnScope N ps scope) (len : ∀ vs H Q E, sp vs H Q E → vs.length = ps.length)
    (hbody : ∀ (A : Around) (outer : List Env) (s : Shared) (H : Hp) (vs : List V) (Q : VK) (E : XK), Room k (A.deeper (envOfC qual scope s.heap.objs.size f (.ref (He.cT K p).1))) → sp vs H Q E →
      ∃ t, PSs (cxOf CX P w K mg base N qual scope f (.ref (He.cT K p).1) A outer s H E) body t ∧ t { nx := fun _ H' => Q .non H', rt := Q } (L2.start N vs) H) : FnOk P w K mg base CX (k + 1) f fd ps sp := by
  obtain ⟨oc, od, dV, kV, doc, pm, an, cdv, ct, osl, rfl, lk, hcd, _, _⟩ := F.ex
  have hc : cdv = .ref (He.cT K p).1 := by
    cases cdv with
    | ref c =>
      rw [hf] at lk
      show Value.ref c = .ref (He.codeOf K p)
      rw [He.codeOf_eq lk (c := c) rfl]
    | _ => cases hcd
  subst hc
  exact fn_of lk hcd S len fun A outer s H vs Q E hr hsp => hbody A outer s H vs Q E hr hsp
def BodyL (P : Program) (w : World) (K : PySem.W.Frag) (mg : Str → Option Value) (base : Heap) (N : List Str) (qual : Str) (scope : Scope) (k : Nat) (O O' : List Nat) (body : List Stmt) (m : SM) (c : Addr) : Prop :=
  ∀ (f : Addr) (A : Around) (outer : List Env) (s : Shared) (H : Hp) (E : XK), Room k (A.deeper (envOfC qual scope s.heap.objs.size f (.ref c))) → VSs (CxD P w K mg base N qual scope f (.ref c) A outer s H E) (EU H E) O O' [] body m
theorem dfnL {N ps : List Str} {k : Nat} {sp : FSp} {m : SM} {O' : List Nat} {p : He.Defn} (F : FunD K x qual params body scope dvs kws f fd) (hf : f = He.fAd K p) (Sc : FnScope N ps scope)
    (hb : BodyL P w K mg base N qual scope k [] O' body m (He.cT K p).1)
    (hm : ∀ ds n Q xq, ds.length = ps.length → sp.run ds n Q xq → m xq { nx := fun _ n' => Q .non n', rt := Q } (startD N ds) n) : FnOk P w K mg base (CX P w) (k + 1) f fd ps (lift K ps.length sp) := by
  refine okC F hf Sc (fun vs H Q E h => ?_) (fun A outer s H vs Q E hr h => ?_)
  · obtain ⟨aS, A0, ds, n, xq, hl, r, _⟩ := h
    rw [r.length, hl]
  · obtain ⟨aS, A0, ds, n, xq, hl, r, st, av, L, q⟩ := h
    obtain ⟨t, p, ft⟩ := hb f A outer s H E hr
    refine ⟨t, p, ft aS ⟨A0, none⟩ H _ H _ n xq _ _ (SR.start r st av) L.eu ?_ (hm ds n _ xq hl q)⟩
    refine ⟨fun σ' H' s' n' S' q' => q' .non H' S'.fr S'.st rep_non, fun v H' d n' kp st' r' q' => q' v H' kp st' r', fun _ _ _ _ _ z => z.elim, fun _ _ _ _ _ z => z.elim⟩
theorem gfnL {N ps : List Str} {k : Nat} {sp : FSp} {m : SM} {O' : List Nat} {p : He.Defn} (F : FunD K x x params body scope [] [] f fd) (hf : f = He.fAd K p) (hg : mg x = some (.ref f)) (Sc : FnScope N ps scope) (hb : BindOk x params body scope ps)
    (B : BodyL P w K mg base N x scope k [] O' body m (He.cT K p).1) (hm : Meets ps.length N sp m) : GFn P w K mg base x (k + 1) ps (lift K ps.length sp) :=
  ⟨f, fd, hg, F.kp, F.bindsN hb, dfnL F hf Sc B hm⟩
/-- the def that asks -/
theorem gun_of {N : List Str} {a C : Str} {p : He.Defn} (F : FunD K x x params body scope [] [] f fd) (hg : mg x = some (.ref f)) (Sc : FnScope N [a] scope) (hb : BindOk x params body scope [a]) (h0 : N[0]? = some a) (hv : Vis scope a) (exm : PySem.W.exmOne K (.ref (He.ga K C)) (.ref (He.ga K C)) = some true)
    (hG : ∀ (cdv : Value) (X : Cx), X.prog = P → X.w = w → X.K = K → X.mg = mg → X.base = base → ∀ q, GivesTo X N x scope f cdv body a q (TR.TUn K (He.ga K C)))
    (h1 : (a == ("__debug__" : Str)) = false := by decide) (h2 : (a == ("__classdict__" : Str)) = false := by decide) : GUn P w K mg base x C := by
  have b := F.bindsN hb
  obtain ⟨oc, od, dV, kV, doc, pm, an, cdv, ct, osl, rfl, lk, hcd, _, _⟩ := F.ex
  exact ⟨⟨N, a, scope, f, oc, od, params, body, dV, kV, doc, pm, an, cdv, ct, osl, hg, F.kp, lk, hcd, b, Sc, h0, hv, h1, h2, hG cdv⟩, exm⟩
end
section
variable {P : Program} {w : World} {K : PySem.W.Frag} {mg : Str → Option Value} {base : Heap} {x : Str} {params : Arguments} {st : Stmt} {rest : List Stmt} {scope : Scope} {f : Addr} {fd : FuncData}
theorem law_topL {N : List Str} {k : Nat} {m : SM} {O' : List Nat} {p0 : He.Defn} (F : FunD K x x params (st :: rest) scope [] [] f fd) (hf : f = He.fAd K p0) (Sc : FnScope N ["_law_script"] scope) (hN : 2 ≤ N.length)
    (h1 : ∀ (cdv : Value) (A : Around) (outer : List Env) (s : Shared) (H : Hp) (E : XK), Room k (A.deeper (envOfC x scope s.heap.objs.size f cdv)) → PS (CxD P w K mg base N x scope f cdv A outer s H E) st (tFirst K))
    (hb : BodyL P w K mg base N x scope k [] O' rest m (He.cT K p0).1)
    (hm : m (fun _ _ => False) { nx := fun _ _ => False, rt := fun d _ => d = .bl true } (none :: some .st :: List.replicate (N.length - 2) none) 0) : FnOk P w K mg base (CX P w) (k + 1) f fd ["_law_script"] (spLaw K) := by
  refine okC F hf Sc (fun vs H Q E h => ?_) (fun A outer s H vs Q E hr h => ?_)
  · obtain ⟨a, ns, rfl, _⟩ := h
    rfl
  · obtain ⟨a, ns, rfl, hs, hT, hq⟩ := h
    obtain ⟨t, p, ft⟩ := hb f A outer s H E hr
    refine ⟨_, pss_cons (h1 _ A outer s H E hr) (pss_lock1 p), ?_⟩
    refine ⟨.ref a, rfl, a, ns, rfl, hs, fun l p cs H' hne hp hl kp hL hP => ?_⟩
    refine ⟨l, _, hL, trivial, fun od => ?_⟩
    obtain ⟨j, hj⟩ : ∃ j, N.length = j + 2 := ⟨N.length - 2, by omega⟩
    have es : (L2.start N [V.ref a]).set 1 (some (.ref p)) = some (.ref a) :: some (.ref p) :: List.replicate j none := by
      unfold L2.start
      have e : N.length - [V.ref a].length = j + 1 := by rw [hj]; rfl
      rw [e, List.replicate_succ]
      rfl
    show t _ ((L2.start N [V.ref a]).set 1 (some (.ref p))) _
    rw [es]
    have hj2 : N.length - 2 = j := by omega
    rw [hj2] at hm
    have hP' : upd H' l (.frz od (.lst (cs.map V.int))) p = some (.lst (l5 l 0 0 0 0)) := by rw [upd_ne (Ne.symm hne)]; exact hP
    have S : SR K p [] ⟨fun _ => False, none⟩ (upd H' l (.frz od (.lst (cs.map V.int)))) (some (.ref a) :: some (.ref p) :: List.replicate j none) (upd H' l (.frz od (.lst (cs.map V.int)))) (none :: some .st :: List.replicate j none) 0 := by
      refine ⟨by rw [List.length_cons, List.length_cons, List.length_cons, List.length_cons, List.length_replicate, List.length_replicate], fun i d e _ => ?_, (fun i hi => nomatch hi), (fun i j b hi => nomatch hi), KpS.refl, ⟨l, cs, 0, 0, 0, 0, hP', hne, ⟨od, upd_same⟩, by decide, by decide, by decide, by decide, by decide, by decide, tabs_poke ⟨hT.1.ext kp.1, fun b ps e => hT.2 b ps (kp.2 b ps e)⟩ hL (fun _ z => nomatch z) (fun _ z => nomatch z)⟩, (fun a h => h.elim), (fun hi => nomatch hi)⟩
      match i, e with
      | 0, e => cases e
      | 1, e => cases e; exact ⟨_, rfl, by rw [Rep]⟩
      | i + 2, e =>
        have e : (List.replicate j (none : Option D))[i]? = some (some d) := e
        rw [List.getElem?_replicate] at e
        split at e <;> cases e
    refine ft p _ _ _ _ _ 0 (fun _ _ => False) _ _ S (fun _ _ _ _ _ _ _ _ z => z.elim) ?_ hm
    refine ⟨fun _ _ _ _ _ z => z.elim, fun v H'' d n kp st r e => ?_, fun _ _ _ _ _ z => z.elim, fun _ _ _ _ _ z => z.elim⟩
    have e : d = .bl true := e
    subst e
    rw [Rep] at r
    subst r
    exact hq H''
end
/-- new tables -/
theorem tabs_new {T : List (Addr × Str)} {H : Hp} (h : ∀ p ∈ T, H p.1 = some (.tbl #[])) : LamX.Tabs T H := fun p hp => ⟨#[], h p hp, trivial, fun pos cv hc => by cases hc⟩
end DL
namespace DL
open PySem PySem.Spec PyProof.Rows L2 LamX
variable [TabC]
theorem lam_tk {X : Cx} {A : Around} {outer : List Env} {s : Shared} {H : Hp} {E : XK} {scope : Scope} {f c' : Addr} : TK (lamCx X A outer s H E scope f c') (EU H E) := tk_eu (X := lamCx X A outer s H E scope f c') (takes_of rfl rfl rfl rfl)
end DL
namespace TR
open PySem PySem.Spec PyProof.Rows L2
/-! ### the clauses -/
section
variable {X : Cx} {a C : Addr} {oe : Obj} {cls : Value} {d : Option Addr} {pn : List (Addr × Obj)} {fd e f w : Str} {i j k1 k2 k3 : Nat} {q1 q2 q3 q4 q5 q6 q7 q8 : Pos}
theorem clause_fld (nd : X.N.Nodup) (hj : X.N[j]? = some fd) (hlf : X.env.scope.names.lookup fd = some .local) (hi : X.N[i]? = some e) (hle : X.env.scope.names.lookup e = some .local) (T : XfC X.K C) (hno : PySem.W.findIn X.K (.ref C) f = some none) (hz : Zc cls d oe) (hf : ∃ vs, oe.data = .fields vs)
    (hd : (e == ("__debug__" : Str)) = false := by decide) (hcd : (e == ("__classdict__" : Str)) = false := by decide)
    (hsw : swapsWith (.Tuple [.Constant (.str w) k1 q2, .Attribute (.Name e q3) f q4] k2 q5) (some (.Name fd q1)) q6.line (X.suite a ((a, oe) :: pn)).env = pure false := by rfl) (hb : attributeBase (.Name e q3) f X.env (eval (.Name e q3) X.env) = eval (.Name e q3) X.env := by rfl) :
    PSs (X.suite a ((a, oe) :: pn)) [.Assign [.Name fd q1] (.Tuple [.Constant (.str w) k1 q2, .Attribute (.Name e q3) f q4] k2 q5) q6] (tsOf X.K j (C, some i, .fld w f) a cls d) :=
  pss_one (ps_set (i := j) nd hj (.inl hlf) (pe_tup (pa_cons pe_str (pa_cons (pe_xf T hno hz hf (pe_var (X := X.suite a ((a, oe) :: pn)) hi (.inl hle) hd hcd) hb) pa_nil))) hsw (.inr hlf))
theorem clause_lst (nd : X.N.Nodup) (hj : X.N[j]? = some fd) (hlf : X.env.scope.names.lookup fd = some .local) (hi : X.N[i]? = some e) (hle : X.env.scope.names.lookup e = some .local) (T : XfC X.K C) (hno : PySem.W.findIn X.K (.ref C) f = some none) (hg : Gl X "list") (hm : X.mg "list" = none) (hz : Zc cls d oe) (hf : ∃ vs, oe.data = .fields vs)
    (hd : (e == ("__debug__" : Str)) = false := by decide) (hcd : (e == ("__classdict__" : Str)) = false := by decide)
    (hsw : swapsWith (.Tuple [.Constant (.str w) k1 q2, .Call (.Name "list" q7) [.Attribute (.Name e q3) f q4] [] q8] k2 q5) (some (.Name fd q1)) q6.line (X.suite a ((a, oe) :: pn)).env = pure false := by rfl) (hb : attributeBase (.Name e q3) f X.env (eval (.Name e q3) X.env) = eval (.Name e q3) X.env := by rfl) :
    PSs (X.suite a ((a, oe) :: pn)) [.Assign [.Name fd q1] (.Tuple [.Constant (.str w) k1 q2, .Call (.Name "list" q7) [.Attribute (.Name e q3) f q4] [] q8] k2 q5) q6] (tsOf X.K j (C, some i, .lst w f) a cls d) :=
  pss_one (ps_set (i := j) nd hj (.inl hlf) (pe_tup (pa_cons pe_str (pa_cons (pe_callTy call_list_of hg hm boot_list (pa_cons (pe_xf T hno hz hf (pe_var (X := X.suite a ((a, oe) :: pn)) hi (.inl hle) hd hcd) hb) pa_nil)) pa_nil))) hsw (.inr hlf))
theorem clause_str {o : Option Nat} (nd : X.N.Nodup) (hj : X.N[j]? = some fd) (hlf : X.env.scope.names.lookup fd = some .local)
    (hsw : swapsWith (.Constant (.str w) k1 q2) (some (.Name fd q1)) q6.line (X.suite a ((a, oe) :: pn)).env = pure false := by rfl) :
    PSs (X.suite a ((a, oe) :: pn)) [.Assign [.Name fd q1] (.Constant (.str w) k1 q2) q6] (tsOf X.K j (C, o, .str w) a cls d) :=
  pss_one (ps_set (i := j) nd hj (.inl hlf) pe_str hsw (.inr hlf))
theorem clause_nonp {o : Option Nat} (nd : X.N.Nodup) (hj : X.N[j]? = some fd) (hlf : X.env.scope.names.lookup fd = some .local)
    (hsw : swapsWith (.Tuple [.Constant (.str w) k1 q2, .Constant .none k3 q3] k2 q5) (some (.Name fd q1)) q6.line (X.suite a ((a, oe) :: pn)).env = pure false := by rfl) :
    PSs (X.suite a ((a, oe) :: pn)) [.Assign [.Name fd q1] (.Tuple [.Constant (.str w) k1 q2, .Constant .none k3 q3] k2 q5) q6] (tsOf X.K j (C, o, .nonp w) a cls d) :=
  pss_one (ps_set (i := j) nd hj (.inl hlf) (pe_tup (pa_cons pe_str (pa_cons pe_non pa_nil))) hsw (.inr hlf))
end
/-! ### without found = None ahead -/
section
variable {X : Cx}
theorem tried_gives2 {Ng : List Str} {x a fd q w : Str} {sg : Scope} {g : Addr} {cdg : Value} {l : List HE} {h₀ : ExceptHandler} {hds : List ExceptHandler} {k1 k2 : Nat} {p1 p2 p3 p4 p5 p6 q4 q5 q6 : Pos}
    (nd : Ng.Nodup) (h1 : Ng[1]? = some fd) (hlf : sg.names.lookup fd = some .local) (hlen : 2 ≤ Ng.length) (hl : ∀ e ∈ l, heOk Ng.length 1 e) (hd : (fd == ("__debug__" : Str)) = false := by decide) (hcd : (fd == ("__classdict__" : Str)) = false := by decide)
    (hsw3 : ∀ s H, swapsWith (.Tuple [.Constant (.str w) k1 p5, .Call (.Name a p1) [] [] p2] k2 p6) (some (.Name fd p4)) p3.line (ZX X Ng x sg g cdg s H).env = pure false := by intros; rfl)
    (hh : ∀ s H, MixOk (ZX X Ng x sg g cdg s H) (h₀ :: hds) (l.map (hdOf X.K 1))) :
    LamX.GivesTo X Ng x sg g cdg [.Try [.Assign [.Name fd p4] (.Tuple [.Constant (.str w) k1 p5, .Call (.Name a p1) [] [] p2] k2 p6) p3] (h₀ :: hds) [] [] q4, .Return (some (.Name fd q5)) q6] a q (TTried X.K Ng (.told w) l) := by
  intro f c' s H Q tl act hc h
  obtain ⟨Ech, hE, htl⟩ := h f
  have hj : 1 < Ng.length := hlen
  let D0 : Ends := { nx := fun _ H' => Q .non H', rt := Q }
  let D1 : Ends := { D0 with nx := fun σ H => tRet (tVar 1) D0 σ H }
  have mixed : ∀ cls d σ' H', Ech cls d H' → σ'.length = Ng.length → wMix X.K (fun _ _ _ _ => False) D1 (l.map (hdOf X.K 1)) cls d σ' H' := fun cls d σ' H' z hz =>
    hw_mix (D := D1) hj (fun σ H v e q => (⟨v, e, q⟩ : tVar 1 σ H Q)) l cls d σ' H' hl hz (hE cls d H' z)
  refine ⟨_, pss_cons (ps_try_mix (X := ZX X Ng x sg g cdg s H) (Wout := fun _ _ _ _ => False)
      (tb := fun W D σ H => ∃ Ec : XK, (∀ cls d σ' H', Ec cls d H' → σ'.length = Ng.length → W cls d σ' H') ∧ σ[0]? = some (some (.ref f)) ∧ H c' = some (LamX.CodeO c' q) ∧ tl Ec H fun v H1 => 2 ≤ sizeLine ∧ ∀ p, H1 p = none → D.nx (σ.set 1 (some (.ref p))) (upd H1 p (.tup [.str w, v])))
      rfl rfl nd LamX.takes0 (fun W pn xe tk _ => ⟨fun pins s' σ H' D I h' => ?_⟩) (hh s H)) (pss_one (ps_ret (pe_var h1 (.inl hlf) hd hcd))), ?_⟩
  · obtain ⟨Ec, hW, e0, ec, ht⟩ := h'
    have hp := act (fun c d σ H => σ.length = Ng.length → W c d σ H) pn xe Ec p1 p2 (takes_len (X := (ZX X Ng x sg g cdg s H).tr pn xe) tk) hW
    exact (pss_one (ps_set (i := 1) nd h1 (.inl hlf) (pe_tup (pa_cons pe_str (pa_cons hp pa_nil))) (hsw3 s H) (.inr hlf))).run pins s' σ H' D I ⟨e0, ec, ht⟩
  · refine ⟨Ech, mixed, rfl, hc, ?_⟩
    have e : (fun (v : V) (H' : Hp) => okW ((L2.start Ng [V.ref f]).set 1 (some .non)) Q v H' (.told w)) = fun v H1 => 2 ≤ sizeLine ∧ ∀ p, H1 p = none → tVar 1 ((L2.start Ng [V.ref f]).set 1 (some (.ref p))) (upd H1 p (.tup [.str w, v])) Q := by
      funext v H'
      unfold okW
      simp only [List.set_set]
    rw [e] at htl
    exact htl
theorem tried_gives2K {K : PySem.W.Frag} (hK : X.K = K) {Ng : List Str} {x a fd q w : Str} {sg : Scope} {g : Addr} {cdg : Value} {l : List HE} {h₀ : ExceptHandler} {hds : List ExceptHandler} {k1 k2 : Nat} {p1 p2 p3 p4 p5 p6 q4 q5 q6 : Pos}
    (nd : Ng.Nodup) (h1 : Ng[1]? = some fd) (hlf : sg.names.lookup fd = some .local) (hlen : 2 ≤ Ng.length) (hl : ∀ e ∈ l, heOk Ng.length 1 e)
    (hh : ∀ s H, MixOk (ZX X Ng x sg g cdg s H) (h₀ :: hds) (l.map (hdOf X.K 1))) (hd : (fd == ("__debug__" : Str)) = false := by decide) (hcd : (fd == ("__classdict__" : Str)) = false := by decide)
    (hsw3 : ∀ s H, swapsWith (.Tuple [.Constant (.str w) k1 p5, .Call (.Name a p1) [] [] p2] k2 p6) (some (.Name fd p4)) p3.line (ZX X Ng x sg g cdg s H).env = pure false := by intros; rfl) :
    LamX.GivesTo X Ng x sg g cdg [.Try [.Assign [.Name fd p4] (.Tuple [.Constant (.str w) k1 p5, .Call (.Name a p1) [] [] p2] k2 p6) p3] (h₀ :: hds) [] [] q4, .Return (some (.Name fd q5)) q6] a q (TTried K Ng (.told w) l) := by
  subst hK
  exact tried_gives2 nd h1 hlf hlen hl hd hcd hsw3 hh
end
end TR
namespace DL
open PySem PySem.Spec PyProof.Rows L2 LamX
variable [TabC]
theorem gtr_of {P : Program} {w : World} {K : PySem.W.Frag} {mg : Str → Option Value} {base : Heap} {x : Str} {params : Arguments} {body : List Stmt} {scope : Scope} {f : Addr} {fd : FuncData} {N : List Str} {a : Str} {ok : TR.OKF} {hs : HS} (F : FunD K x x params body scope [] [] f fd) (hg : mg x = some (.ref f)) (Sc : FnScope N [a] scope) (hb : BindOk x params body scope [a]) (h0 : N[0]? = some a) (h2n : 2 ≤ N.length) (hv : Vis scope a)
    (exm : ∀ e ∈ hs, ∀ e' ∈ hs, PySem.W.exmOne K (.ref (He.ga K e.1)) (.ref (He.ga K e'.1)) = some (decide (e'.1 = e.1)))
    (hG : ∀ (cdv : Value) (X : Cx), X.prog = P → X.w = w → X.K = K → X.mg = mg → X.base = base → ∀ q, GivesTo X N x scope f cdv body a q (TR.TTried K N ok (hsA K hs)))
    (h1 : (a == ("__debug__" : Str)) = false := by decide) (h2 : (a == ("__classdict__" : Str)) = false := by decide) : GTr P w K mg base x ok hs := by
  have b := F.bindsN hb
  obtain ⟨oc, od, dV, kV, doc, pm, an, cdv, ct, osl, rfl, lk, hcd, _, _⟩ := F.ex
  exact ⟨⟨N, a, scope, f, oc, od, params, body, dV, kV, doc, pm, an, cdv, ct, osl, hg, F.kp, lk, hcd, b, Sc, h0, h2n, hv, h1, h2, hG cdv⟩, exm⟩
end DL
namespace DL
open PySem PySem.Spec PyProof.Rows L2
variable [TabC]
/-! ### xs[::-1] -/
section
variable {K : PySem.W.Frag} {aS : Addr} {H : Hp} {A : AS}
theorem RepL.snoc : ∀ {ds : List D} {vs : List V} {d : D} {v : V}, RepL K aS H A ds vs → Rep K aS H A d v → RepL K aS H A (ds ++ [d]) (vs ++ [v])
  | [], vs, d, v, h, r => by
    rw [RepL] at h
    subst h
    exact RepL.cons r RepL.nil
  | e :: ds, vs, d, v, h, r => by
    rw [RepL] at h
    obtain ⟨u, ur, e1, r1, q⟩ := h
    subst e1
    exact RepL.cons r1 (RepL.snoc q r)
theorem RepL.rev : ∀ {ds : List D} {vs : List V}, RepL K aS H A ds vs → RepL K aS H A ds.reverse vs.reverse
  | [], vs, h => by
    rw [RepL] at h
    subst h
    exact RepL.nil
  | e :: ds, vs, h => by
    rw [RepL] at h
    obtain ⟨u, ur, e1, r1, q⟩ := h
    subst e1
    rw [List.reverse_cons, List.reverse_cons]
    exact RepL.snoc (RepL.rev q) r1
end
def eRev (m : EM D) : EM D := fun xq s n Q => m xq s n fun d n1 => ∃ xs, d = .lst xs ∧ Q (.lst xs.reverse) n1
section
variable {X : Cx} {E : XK} {O : List Nat} {e : Expr} {m : EM D}
theorem vf_rev {k : Nat} {p1 p2 p3 pos : Pos} (h : VE X E O e m) : VF X E O (.Subscript e (.Slice none none (some (.UnaryOp .USub (.Constant (.int 1) k p1) p2)) p3) pos) (eRev m) := by
  obtain ⟨mn, t, pe, f⟩ := h
  refine ⟨fun xq s n Q Q' hq h => mn _ _ _ _ _ (fun _ _ ⟨xs, z, q⟩ => ⟨xs, z, hq _ _ q⟩) h, _, pe_revL pe, fun aS A0 H0 σ H s n xq Q S L hm => ?_⟩
  refine f aS A0 H0 σ H s n xq _ S L (mn _ _ _ _ _ (fun d n1 q v H1 k1 st1 r1 => ?_) hm)
  obtain ⟨xs, ed, q⟩ := q
  subst ed
  rw [Rep] at r1
  obtain ⟨a, vs, ev, na, hq, rl⟩ := r1
  refine ⟨a, vs, ev, SqL.of hq, fun p hp => q p _ ?_ (k1.trans (KpS.upd hp)) (st1.upd hp) (own_new hp rl.rev)⟩
  cases z : H p with
  | none => rfl
  | some u =>
    by_cases hz : p = aS
    · obtain ⟨xs, y⟩ := st1.lst
      rw [hz, y] at hp
      cases hp
    · exact (KpS.gone k1 hp z hz).elim
def fRev (a : FM D) : FM D := fun s => (a s).bind fun d => match d with
  | .lst xs => .ok (.lst xs.reverse)
  | _ => .bad
theorem le_rev {a : FM D} : ∀ xq s n Q, up (fRev a) xq s n Q → eRev (up a) xq s n Q := fun xq s n Q h => by
  unfold eRev up
  exact wp_mono (fun d h => by
    cases d with
    | lst xs => exact ⟨xs, rfl, h⟩
    | _ => exact h.elim) (wp_bind h)
end
end DL
namespace DL.K34
open PySem PySem.Spec PyProof.Rows L2
variable [TabC]
abbrev N__law_names : List Str := ["_law_state", "_law_many", "_law_some_here"]
def B__law_names : SM :=
  (sSeq (upS (fSet 2 (fLst (fCons (fC (.str "a")) (fCons (fC (.str "b")) (fCons (fC (.str "rice")) (fCons (fC (.str "fish")) (fCons (fC (.str "start")) (fCons (fC (.str "done")) (fCons (fC (.str "wish")) (fCons (fC (.str "zz")) fNil))))))))))) (sRet (eSl (eCall 2 sp__law_mix [] (up (fCons (fVar 0) (fCons (fBin dAdd (fVar 2) (fLst (fCons (fC (.str "station")) (fCons (fC (.str "clocks")) (fCons (fC (.str "abcdefgh")) (fCons (fC (.str "meal")) (fCons (fC (.str "go")) (fCons (fC (.str "wait")) (fCons (fC (.str "cloc")) (fCons (fC (.str "on")) fNil)))))))))) fNil)))) (up fNone) (up (fSome (fVar 1))))))
abbrev N__law_meal_of : List Str := ["_law_dishes_here", "_law_wishes_here", "_law_stations"]
def B__law_meal_of : FS :=
  (fRet (fMake 4 f_Meal___init__ [] (fCons (fVar 0) (fCons (fVar 1) (fCons (fVar 2) fNil)))))
def f__law_meal_of : FFn := runB N__law_meal_of B__law_meal_of
abbrev N__law_some : List Str := ["_law_state", "_law_things", "_law_thing"]
def B__law_some : SM :=
  (sRet (eLc (up (fIter (fVar 1))) [2] (upG (fgNm 2)) (eBinT dEq (eCall 2 sp__law_take [] (up (fCons (fVar 0) (fCons (fC (.int 2)) fNil)))) (up (fC (.int 0)))) (up (fVar 2))))
abbrev N__law_spoilt : List Str := ["_law_state", "_law_names_here", "_law_odd", "_law_found", "_law_first", "_law_at", "_law_more"]
def B__law_spoilt : SM :=
  (sSeq (upS (fSet 2 (fLst (fCons (fC .non) (fCons (fC (.int 5)) (fCons (fC (.str "")) (fCons (fC (.str "Rice")) (fCons (fC (.str "zzzz")) (fCons (fC (.str "clock")) (fCons (fTup (fCons (fC (.str "a")) fNil)) (fCons (fC (.bl true)) (fCons (fLst (fCons (fC (.str "b")) fNil)) (fCons (fC (.dic [])) fNil))))))))))))) (sSeq (sSet 3 (eCall 2 sp__law_mix [] (eCons (up (fVar 0)) (eCons (eCall 2 sp__law_some [] (up (fCons (fVar 0) (fCons (fVar 1) fNil)))) (up fNil))))) (sSeq (sSet 4 (eCall 2 sp__law_one [] (up (fCons (fVar 0) (fCons (fVar 2) fNil))))) (sSeq (sSet 5 (eCall 2 sp__law_take [] (up (fCons (fVar 0) (fCons (fBin dAdd (fBlt dLen (fCons (fVar 3) fNil)) (fC (.int 1))) fNil))))) (sSeq (sSet 6 (eIf (eBinT dEq (eCall 2 sp__law_take [] (up (fCons (fVar 0) (fCons (fC (.int 2)) fNil)))) (up (fC (.int 0)))) (eLst (eCons (eCall 2 sp__law_one [] (up (fCons (fVar 0) (fCons (fVar 2) fNil)))) (up fNil))) (up (fLst fNil)))) (upS (fRet (fTup (fCons (fBin dAdd (fBin dAdd (fBin dAdd (fSl (fVar 3) fNone (fSome (fVar 5))) (fLst (fCons (fVar 4) fNil))) (fSl (fVar 3) (fSome (fVar 5)) fNone)) (fVar 6)) (fCons (fVar 4) fNil))))))))))
abbrev N_checked_looks : List Str := ["meal", "looks", "look"]
def b_checked_looks_1 : FS := (fIfS (fNotT (fVal (fCall 2 f_is_among [] (fCons (fVar 2) (fCons (fFld "Meal" "bounds" (fVar 0)) fNil))))) (fRaise "NoDish" ["name"] (fCons (fVar 2) fNil)) fNilS)
def B_checked_looks : FS :=
  (fSeq (fIfS (fBinT dIs (fVar 1) (fC .non)) (fRet (fBlt dList (fCons (fFld "Meal" "bounds" (fVar 0)) fNil))) fNilS) (fSeq (fFor (fIter (fVar 1)) (fgNm 2) (b_checked_looks_1)) (fRet (fBlt dList (fCons (fVar 1) fNil)))))
def f_checked_looks : FFn := runB N_checked_looks B_checked_looks
abbrev N_sought : List Str := ["meal", "looks", "told", "orders", "found", "lacking", "book", "pair", "words", "rows", "index", "name", "other", "why", "later"]
def B_sought (sf : FFn) : FS :=
  fNever
def r_sought : Nat → FFn
  | 0 => fun _ => .bad
  | k + 1 => runB N_sought (B_sought (r_sought k))
def f_sought : FFn := r_sought 6
abbrev N_book_for : List Str := ["meal", "looks"]
def B_book_for : FS :=
  (fRet (fBin dIdx (fCall 4 f_sought [] (fCons (fVar 0) (fCons (fCall 2 f_checked_looks [] (fCons (fVar 0) (fCons (fVar 1) fNil))) (fCons (fC (.dic [])) (fCons (fLst fNil) fNil))))) (fC (.int 0))))
def f_book_for : FFn := runB N_book_for B_book_for
abbrev N_reason : List Str := ["meal", "looks"]
def B_reason : FS :=
  (fRet (fBin dIdx (fCall 4 f_sought [] (fCons (fVar 0) (fCons (fCall 2 f_checked_looks [] (fCons (fVar 0) (fCons (fVar 1) fNil))) (fCons (fC (.dic [])) (fCons (fLst fNil) fNil))))) (fC (.int 1))))
def f_reason : FFn := runB N_reason B_reason
abbrev N_is_reason_under : List Str := ["meal", "looks", "told", "orders", "thing", "words", "rows", "one"]
def B_is_reason_under : FS :=
  fNever
def f_is_reason_under : FFn := runB N_is_reason_under B_is_reason_under
abbrev N_is_reason : List Str := ["meal", "looks", "thing"]
def B_is_reason : FS :=
  (fRet (fCall 5 f_is_reason_under [] (fCons (fVar 0) (fCons (fCall 2 f_checked_looks [] (fCons (fVar 0) (fCons (fVar 1) fNil))) (fCons (fC (.dic [])) (fCons (fLst fNil) (fCons (fVar 2) fNil)))))))
def f_is_reason : FFn := runB N_is_reason B_is_reason
abbrev N_enough : List Str := ["meal", "looks"]
def B_enough : FS :=
  (fRet (fBin dNotN (fCall 2 f_book_for [] (fCons (fVar 0) (fCons (fVar 1) fNil))) (fC .non)))
def f_enough : FFn := runB N_enough B_enough
abbrev N_in_place : List Str := ["meal", "looks", "look", "other", "some", "name"]
def B_in_place : FS :=
  (fSeq (fSet 4 (fCall 2 f_checked_looks [] (fCons (fVar 0) (fCons (fVar 1) fNil)))) (fSeq (fIfS (fNotT (fVal (fCall 2 f_is_among [] (fCons (fVar 2) (fCons (fVar 4) fNil))))) (fRaise "NoDish" ["name"] (fCons (fVar 2) fNil)) fNilS) (fSeq (fIfS (fNotT (fVal (fCall 2 f_is_among [] (fCons (fVar 3) (fCons (fFld "Meal" "bounds" (fVar 0)) fNil))))) (fRaise "NoDish" ["name"] (fCons (fVar 3) fNil)) fNilS) (fRet (fCall 2 f_enough [] (fCons (fVar 0) (fCons (fBin dAdd (fLc (fIter (fVar 4)) [5] (fgNm 5) (fBinT dNe (fVar 5) (fVar 2)) (fVar 5)) (fLst (fCons (fVar 3) fNil))) fNil)))))))
def f_in_place : FFn := runB N_in_place B_in_place
abbrev N__law_by_looks : List Str := ["_law_meal_here", "_law_bad", "_law_found"]
def B__law_by_looks : FS :=
  (fSeq (fSetF 2 (fLst (fCons (fTried (.told "told") [("NoDish", some 2, .fld "dish" "name"), ("NoWish", some 2, .fld "wish" "index")] [] (fCall 2 f_book_for [] (fCons (fVar 0) (fCons (fVar 1) fNil)))) fNil))) (fSeq (fApp 2 (fTried (.told "told") [("NoDish", some 2, .fld "dish" "name"), ("NoWish", some 2, .fld "wish" "index")] [2] (fCall 2 f_reason [] (fCons (fVar 0) (fCons (fVar 1) fNil))))) (fSeq (fApp 2 (fTried (.told "told") [("NoDish", some 2, .fld "dish" "name"), ("NoWish", some 2, .fld "wish" "index")] [2] (fCall 3 f_is_reason [] (fCons (fVar 0) (fCons (fVar 1) (fCons (fC .non) fNil)))))) (fSeq (fApp 2 (fTried (.told "told") [("NoDish", some 2, .fld "dish" "name"), ("NoWish", some 2, .fld "wish" "index")] [2] (fCall 2 f_enough [] (fCons (fVar 0) (fCons (fVar 1) fNil))))) (fRet (fBin dAdd (fVar 2) (fLst (fCons (fTried (.told "told") [("NoDish", some 2, .fld "dish" "name"), ("NoWish", some 2, .fld "wish" "index")] [2] (fCall 4 f_in_place [] (fCons (fVar 0) (fCons (fVar 1) (fCons (fC .non) (fCons (fC .non) fNil)))))) fNil))))))))
def f__law_by_looks : FFn := runB N__law_by_looks B__law_by_looks
abbrev N_checked_names : List Str := ["meal", "names", "name"]
def b_checked_names_1 : FS := (fDrop (fCall 2 f_check_dish [] (fCons (fVar 2) (fCons (fFld "Meal" "bounds" (fVar 0)) fNil))))
def B_checked_names : FS :=
  (fSeq (fFor (fIter (fVar 1)) (fgNm 2) (b_checked_names_1)) (fRet (fBlt dList (fCons (fVar 1) fNil))))
def f_checked_names : FFn := runB N_checked_names B_checked_names
abbrev N_ways : List Str := ["meal", "looks", "wishes", "some", "hanging", "orders", "words", "rows"]
def B_ways : FS :=
  fNever
def f_ways : FFn := runB N_ways B_ways
abbrev N_soonest : List Str := ["meal", "names", "looks", "wanted", "found", "anchors", "rows", "sums", "minutes", "name", "longest", "dish"]
def b_soonest_1 : FS := fNever
def B_soonest : FS :=
  (fSeq (fSet 3 (fCall 2 f_checked_names [] (fCons (fVar 0) (fCons (fVar 1) fNil)))) (fSeq (fSetF 4 (fLst fNil)) (fSeq (fFor (fIter (fCall 3 f_ways [] (fCons (fVar 0) (fCons (fCall 2 f_checked_looks [] (fCons (fVar 0) (fCons (fVar 2) fNil))) (fCons (fFld "Meal" "wish_row" (fVar 0)) fNil))))) (fgTp (fgsCons (fgNm 5) (fgsCons (fgNm 6) fgsNil))) (b_soonest_1)) fNever)))
def f_soonest : FFn := runB N_soonest B_soonest
abbrev N_closest : List Str := ["meal", "names", "looks", "wanted", "found", "anchors", "rows", "pairs", "name", "other", "pair"]
def b_closest_1 : FS := fNever
def B_closest : FS :=
  (fSeq (fSet 3 (fCall 2 f_checked_names [] (fCons (fVar 0) (fCons (fVar 1) fNil)))) (fSeq (fSetF 4 (fLst fNil)) (fSeq (fFor (fIter (fCall 3 f_ways [] (fCons (fVar 0) (fCons (fCall 2 f_checked_looks [] (fCons (fVar 0) (fCons (fVar 2) fNil))) (fCons (fFld "Meal" "wish_row" (fVar 0)) fNil))))) (fgTp (fgsCons (fgNm 5) (fgsCons (fgNm 6) fgsNil))) (b_closest_1)) fNever)))
def f_closest : FFn := runB N_closest B_closest
abbrev N__law_by_names : List Str := ["_law_meal_here", "_law_names_here", "_law_bad", "_law_found"]
def B__law_by_names : FS :=
  (fSeq (fSetF 3 (fLst (fCons (fTried (.told "told") [("NoDish", some 2, .fld "dish" "name"), ("NoWish", some 2, .fld "wish" "index")] [] (fCall 3 f_soonest [] (fCons (fVar 0) (fCons (fVar 2) (fCons (fLst (fCons (fC (.str "?")) fNil)) fNil))))) fNil))) (fSeq (fApp 3 (fTried (.told "told") [("NoDish", some 2, .fld "dish" "name"), ("NoWish", some 2, .fld "wish" "index")] [3] (fCall 3 f_closest [] (fCons (fVar 0) (fCons (fVar 2) (fCons (fLst (fCons (fC (.str "?")) fNil)) fNil)))))) (fSeq (fApp 3 (fTried (.told "told") [("NoDish", some 2, .fld "dish" "name"), ("NoWish", some 2, .fld "wish" "index")] [3] (fCall 3 f_soonest [] (fCons (fVar 0) (fCons (fVar 1) (fCons (fVar 2) fNil)))))) (fRet (fBin dAdd (fVar 3) (fLst (fCons (fTried (.told "told") [("NoDish", some 2, .fld "dish" "name"), ("NoWish", some 2, .fld "wish" "index")] [3] (fCall 3 f_closest [] (fCons (fVar 0) (fCons (fVar 1) (fCons (fVar 2) fNil))))) fNil)))))))
def f__law_by_names : FFn := runB N__law_by_names B__law_by_names
abbrev N_Meal_check_index : List Str := ["self", "index"]
def B_Meal_check_index : FS :=
  (fIfS (fOrT (fNotT (fVal (fCall 1 f_is_integer [] (fCons (fVar 1) fNil)))) (fNotT (fChainT dLe dLt (fC (.int 0)) (fVar 1) (fBlt dLen (fCons (fFld "Meal" "wish_row" (fVar 0)) fNil))))) (fRaise "NoWish" ["index"] (fCons (fVar 1) fNil)) fNilS)
def f_Meal_check_index : FFn := runB N_Meal_check_index B_Meal_check_index
abbrev N_least_most : List Str := ["meal", "index", "looks", "some", "found", "one", "other", "most", "anchors", "rows", "wished", "low", "number", "row"]
def B_least_most : FS :=
  (fSeq (fDrop (fMeth "Meal" "check_index" 2 f_Meal_check_index [] (fVar 0) (fCons (fVar 1) fNil))) (fSeq (fSet 3 (fCall 2 f_checked_looks [] (fCons (fVar 0) (fCons (fVar 2) fNil)))) fNever))
def f_least_most : FFn := runB N_least_most B_least_most
abbrev N_law : List Str := ["_law_script", "_law_state", "_law_turn", "_law_due", "_law_odd", "_law_dishes_here", "_law_wishes_here", "_law_meal_here", "_law_names_here", "_law_bad", "_law_first", "_law_told"]
def b_law_1 : FS := (fSeq (fIfS (fNotT (fVal (fCall 2 f__law_same [] (fCons (fTried (.told "told") [("NoDish", some 2, .fld "dish" "name"), ("NoWish", some 2, .fld "wish" "index")] [] (fCall 4 f_in_place [] (fCons (fVar 7) (fCons (fVar 8) (fCons (fVar 4) (fCons (fC .non) fNil)))))) (fCons (fTup (fCons (fC (.str "dish")) (fCons (fVar 4) fNil))) fNil))))) (fRet (fC (.bl false))) fNilS) (fIfS (fNotT (fVal (fCall 2 f__law_same [] (fCons (fTried (.told "told") [("NoDish", some 2, .fld "dish" "name"), ("NoWish", some 2, .fld "wish" "index")] [] (fCall 4 f_in_place [] (fCons (fVar 7) (fCons (fVar 8) (fCons (fBin dIdx (fVar 8) (fC (.int 0))) (fCons (fVar 4) fNil)))))) (fCons (fTup (fCons (fC (.str "dish")) (fCons (fVar 4) fNil))) fNil))))) (fRet (fC (.bl false))) fNilS))
def b_law_2 : FS := (fIfS (fNotT (fVal (fCall 2 f__law_same [] (fCons (fTried (.told "told") [("NoDish", some 2, .fld "dish" "name"), ("NoWish", some 2, .fld "wish" "index")] [] (fCall 3 f_least_most [] (fCons (fVar 7) (fCons (fVar 4) (fCons (fVar 9) fNil))))) (fCons (fTup (fCons (fC (.str "wish")) (fCons (fVar 4) fNil))) fNil))))) (fRet (fC (.bl false))) fNilS)
def B_law : SM :=
  (sSeq (sFor (up (fRange1 (fC (.int 4)))) (upG (fgNm 2)) (sSeq (sAsg (eCall 4 sp__law_meal [] (eCons (up (fVar 1)) (eCons (eBin dAdd (up (fC (.int 1))) (eCall 2 sp__law_take [] (up (fCons (fVar 1) (fCons (fC (.int 3)) fNil))))) (up (fCons (fC (.int 3)) (fCons (fC (.int 3)) fNil)))))) (upG (fgTp (fgsCons (fgNm 5) (fgsCons (fgNm 6) fgsNil))))) (sSeq (upS (fAsg (fTup (fCons (fCall 3 f__law_meal_of [] (fCons (fVar 5) (fCons (fVar 6) (fCons (fLst fNil) fNil)))) (fCons (fBlt dList (fCons (fVar 5) fNil)) fNil))) (fgTp (fgsCons (fgNm 7) (fgsCons (fgNm 8) fgsNil))))) (sSeq (sAsg (eCall 2 sp__law_spoilt [] (up (fCons (fVar 1) (fCons (fVar 8) fNil)))) (upG (fgTp (fgsCons (fgNm 9) (fgsCons (fgNm 10) fgsNil))))) (upS (fSeq (fSet 3 (fTup (fCons (fC (.str "dish")) (fCons (fVar 10) fNil)))) (fSeq (fIfS (fNotT (fVal (fBlt dAll (fCons (fLc (fIter (fBin dAdd (fCall 2 f__law_by_looks [] (fCons (fVar 7) (fCons (fVar 9) fNil))) (fCall 3 f__law_by_names [] (fCons (fVar 7) (fCons (fVar 8) (fCons (fVar 9) fNil)))))) [11] (fgNm 11) fYes (fCall 2 f__law_same [] (fCons (fVar 11) (fCons (fVar 3) fNil)))) fNil)))) (fRet (fC (.bl false))) fNilS) (fSeq (fFor (fIter (fLst (fCons (fC .non) (fCons (fC (.int 5)) (fCons (fC (.str "zzzz")) (fCons (fC (.bl true)) (fCons (fVar 8) (fCons (fC (.str "clock")) fNil)))))))) (fgNm 4) (b_law_1)) (fSeq (fIfS (fNotT (fVal (fCall 2 f__law_same [] (fCons (fTried (.told "told") [("NoDish", some 2, .fld "dish" "name"), ("NoWish", some 2, .fld "wish" "index")] [] (fCall 4 f_in_place [] (fCons (fVar 7) (fCons (fSl (fVar 8) (fSome (fC (.int 1))) fNone) (fCons (fBin dIdx (fVar 8) (fC (.int 0))) (fCons (fC .non) fNil)))))) (fCons (fTup (fCons (fC (.str "dish")) (fCons (fBin dIdx (fVar 8) (fC (.int 0))) fNil))) fNil))))) (fRet (fC (.bl false))) fNilS) (fSeq (fFor (fIter (fLst (fCons (fNeg (fC (.int 1))) (fCons (fBlt dLen (fCons (fVar 6) fNil)) (fCons (fC .non) (fCons (fC (.str "0")) (fCons (fC (.bl true)) (fCons (fTup (fCons (fC (.int 0)) fNil)) (fCons (fBin dPow (fC (.int 10)) (fC (.int 30))) fNil))))))))) (fgNm 4) (b_law_2)) (fIfS (fAndT (fBinT dNe (fVar 6) (fLst fNil)) (fNotT (fVal (fCall 2 f__law_same [] (fCons (fTried (.told "told") [("NoDish", some 2, .fld "dish" "name"), ("NoWish", some 2, .fld "wish" "index")] [] (fCall 3 f_least_most [] (fCons (fVar 7) (fCons (fC (.int 0)) (fCons (fVar 9) fNil))))) (fCons (fVar 3) fNil)))))) (fRet (fC (.bl false))) fNilS))))))))))) (upS (fRet (fC (.bl true)))))
end DL.K34
namespace DL.K34
open PySem PySem.Spec PyProof.Rows L2 HX
variable [TabC]
def top (i : Nat) : Stmt := PySem.Challenge.pw_cookcalls_k34_looks_refused.main.body.getD i (.Pass ⟨0, 0, 0, 0⟩)
def mth (i j : Nat) : Stmt := (inCls (top i)).getD j (.Pass ⟨0, 0, 0, 0⟩)
abbrev k__law_take : Nat := 1
abbrev k__law_mix : Nat := 2
theorem sc__law_mix : FnScope N__law_mix ["_law_state", "_law_things"] (defScope (top 93)) := ⟨rfl, rfl, rfl, by decide +kernel, rfl, by decide +kernel, by decide +kernel⟩
theorem d__law_mix {P : Program} {w : World} {K : PySem.W.Frag} {mg : Str → Option Value} {base : Heap} (G__law_take : GFn P w K mg base "_law_take" k__law_take ["_law_state", "_law_many"] (lift K 2 sp__law_take)) (f_len : mg "len" = none) (f_list : mg "list" = none) : Body P w K mg base N__law_mix "_law_mix" (defScope (top 93)) 1 [] [3, 2] (defBody (top 93)) (B__law_mix) := by
  have nd := sc__law_mix.nd
  intro f cdv A outer s H E hr
  have tk := cx_tk (P := P) (w := w) (K := K) (mg := mg) (base := base) (N := N__law_mix) (qual := "_law_mix") (scope := defScope (top 93)) (f := f) (cdv := cdv) (A := A) (outer := outer) (s := s) (H := H) (E := E)
  have po := cx_po (P := P) (w := w) (K := K) (mg := mg) (base := base) (N := N__law_mix) (qual := "_law_mix") (scope := defScope (top 93)) (f := f) (cdv := cdv) (A := A) (outer := outer) (s := s) (H := H) (E := E)
  have uc := cx_uc (P := P) (w := w) (K := K) (mg := mg) (base := base) (N := N__law_mix) (qual := "_law_mix") (scope := defScope (top 93)) (f := f) (cdv := cdv) (A := A) (outer := outer) (s := s) (H := H) (E := E)
  exact vss_cons (loS (vs_parFF (i := 2) (j := 3) (by decide) (by decide) (by decide) (by decide) rfl nd rfl rfl (by decide) rfl rfl (loF (vf_callTy (cf_list rfl) rfl f_list boot_list (loA (va_cons stbB (VE.b (lo (ve_var (i := 1) (by decide) rfl (by first | exact .inl rfl | exact .inr (.inl rfl) | exact .inr (.inr rfl))) (le_var _))) (loA va_nil le_nil)) le_cons)) le_blt) (loF (vf_lst (loA va_nil le_nil)) le_lst) rfl) ls_parFF) (vss_cons (vs_while po (loT (vt_cmp (od_ne (Room.u64 hr)) (lo (vb_var (i := 2) (by decide) rfl (by first | exact .inl rfl | exact .inr (.inl rfl) | exact .inr (.inr rfl))) (le_var _)) (VE.b (VF.ve (loF (vf_lst (loA va_nil le_nil)) le_lst))) (nomark _)) le_binT) (vss_one (vs_appPop (i := 2) (j := 3) (by decide) (by decide) (by decide) rfl (by first | exact .inl rfl | exact .inr (.inl rfl) | exact .inr (.inr rfl)) rfl (by first | exact .inl rfl | exact .inr (.inl rfl) | exact .inr (.inr rfl)) (ve_g tk rfl G__law_take hr (by decide) rfl (loA (va_cons stbE (lo (ve_var (i := 0) (by decide) rfl (by first | exact .inl rfl | exact .inr (.inl rfl) | exact .inr (.inr rfl))) (le_var _)) (loA (va_cons stbE (lo (ve_callB cd_len rfl f_len boot_len (loA (va_cons stbB (lo (vb_var (i := 2) (by decide) rfl (by first | exact .inl rfl | exact .inr (.inl rfl) | exact .inr (.inr rfl))) (le_var _)) (loA va_nil le_nil)) le_cons)) le_blt) (loA va_nil le_nil)) le_cons)) le_cons))))) (vss_one (loS (vs_retO (i := 3) (by decide) rfl (by first | exact .inl rfl | exact .inr (.inl rfl) | exact .inr (.inr rfl))) ls_retV)))
abbrev k__law_names : Nat := 3
theorem sc__law_names : FnScope N__law_names ["_law_state", "_law_many"] (defScope (top 96)) := ⟨rfl, rfl, rfl, by decide +kernel, rfl, by decide +kernel, by decide +kernel⟩
theorem d__law_names {P : Program} {w : World} {K : PySem.W.Frag} {mg : Str → Option Value} {base : Heap} (G__law_mix : GFn P w K mg base "_law_mix" k__law_mix ["_law_state", "_law_things"] (lift K 2 sp__law_mix)) : Body P w K mg base N__law_names "_law_names" (defScope (top 96)) 2 [] [] (defBody (top 96)) (B__law_names) := by
  have nd := sc__law_names.nd
  intro f cdv A outer s H E hr
  have tk := cx_tk (P := P) (w := w) (K := K) (mg := mg) (base := base) (N := N__law_names) (qual := "_law_names") (scope := defScope (top 96)) (f := f) (cdv := cdv) (A := A) (outer := outer) (s := s) (H := H) (E := E)
  have po := cx_po (P := P) (w := w) (K := K) (mg := mg) (base := base) (N := N__law_names) (qual := "_law_names") (scope := defScope (top 96)) (f := f) (cdv := cdv) (A := A) (outer := outer) (s := s) (H := H) (E := E)
  have uc := cx_uc (P := P) (w := w) (K := K) (mg := mg) (base := base) (N := N__law_names) (qual := "_law_names") (scope := defScope (top 96)) (f := f) (cdv := cdv) (A := A) (outer := outer) (s := s) (H := H) (E := E)
  exact vss_cons (loS (vs_set (i := 2) (by decide) nd rfl (by first | exact .inl rfl | exact .inr rfl) (VF.ve (loF (vf_lst (loA (va_cons stbE (lo (ve_str) le_c) (loA (va_cons stbE (lo (ve_str) le_c) (loA (va_cons stbE (lo (ve_str) le_c) (loA (va_cons stbE (lo (ve_str) le_c) (loA (va_cons stbE (lo (ve_str) le_c) (loA (va_cons stbE (lo (ve_str) le_c) (loA (va_cons stbE (lo (ve_str) le_c) (loA (va_cons stbE (lo (ve_str) le_c) (loA va_nil le_nil)) le_cons)) le_cons)) le_cons)) le_cons)) le_cons)) le_cons)) le_cons)) le_cons)) le_lst))) ls_set) (vss_one (vs_ret (ve_slice (VE.b (ve_g tk rfl G__law_mix hr (by decide) rfl (loA (va_cons stbE (lo (ve_var (i := 0) (by decide) rfl (by first | exact .inl rfl | exact .inr (.inl rfl) | exact .inr (.inr rfl))) (le_var _)) (loA (va_cons stbE (lo (ve_bin od_add (VE.b (lo (ve_var (i := 2) (by decide) rfl (by first | exact .inl rfl | exact .inr (.inl rfl) | exact .inr (.inr rfl))) (le_var _))) (VE.b (VF.ve (loF (vf_lst (loA (va_cons stbE (lo (ve_str) le_c) (loA (va_cons stbE (lo (ve_str) le_c) (loA (va_cons stbE (lo (ve_str) le_c) (loA (va_cons stbE (lo (ve_str) le_c) (loA (va_cons stbE (lo (ve_str) le_c) (loA (va_cons stbE (lo (ve_str) le_c) (loA (va_cons stbE (lo (ve_str) le_c) (loA (va_cons stbE (lo (ve_str) le_c) (loA va_nil le_nil)) le_cons)) le_cons)) le_cons)) le_cons)) le_cons)) le_cons)) le_cons)) le_cons)) le_lst)))) le_bin) (loA va_nil le_nil)) le_cons)) le_cons))) (loO vo_none le_none) (loO (vo_some (VE.b (lo (ve_var (i := 1) (by decide) rfl (by first | exact .inl rfl | exact .inr (.inl rfl) | exact .inr (.inr rfl))) (le_var _)))) le_some))))
abbrev k__law_dishes : Nat := 3
theorem sc__law_dishes : FnScope N__law_dishes ["_law_state", "_law_names_here", "_law_wide"] (defScope (top 97)) := ⟨rfl, rfl, rfl, by decide +kernel, rfl, by decide +kernel, by decide +kernel⟩
theorem d__law_dishes {P : Program} {w : World} {K : PySem.W.Frag} {mg : Str → Option Value} {base : Heap} (G__law_mix : GFn P w K mg base "_law_mix" k__law_mix ["_law_state", "_law_things"] (lift K 2 sp__law_mix)) (G__law_take : GFn P w K mg base "_law_take" k__law_take ["_law_state", "_law_many"] (lift K 2 sp__law_take)) : Body P w K mg base N__law_dishes "_law_dishes" (defScope (top 97)) 2 [] [3] (defBody (top 97)) (B__law_dishes) := by
  have nd := sc__law_dishes.nd
  intro f cdv A outer s H E hr
  have tk := cx_tk (P := P) (w := w) (K := K) (mg := mg) (base := base) (N := N__law_dishes) (qual := "_law_dishes") (scope := defScope (top 97)) (f := f) (cdv := cdv) (A := A) (outer := outer) (s := s) (H := H) (E := E)
  have po := cx_po (P := P) (w := w) (K := K) (mg := mg) (base := base) (N := N__law_dishes) (qual := "_law_dishes") (scope := defScope (top 97)) (f := f) (cdv := cdv) (A := A) (outer := outer) (s := s) (H := H) (E := E)
  have uc := cx_uc (P := P) (w := w) (K := K) (mg := mg) (base := base) (N := N__law_dishes) (qual := "_law_dishes") (scope := defScope (top 97)) (f := f) (cdv := cdv) (A := A) (outer := outer) (s := s) (H := H) (E := E)
  exact vss_cons (loS (vs_setF (i := 3) (by decide) (by decide) nd rfl (by first | exact .inl rfl | exact .inr rfl) (loF vf_dic0 le_c)) ls_setF) (vss_cons (vs_for po rfl (vi_seq (ve_g tk rfl G__law_mix hr (by decide) rfl (loA (va_cons stbE (lo (ve_var (i := 0) (by decide) rfl (by first | exact .inl rfl | exact .inr (.inl rfl) | exact .inr (.inr rfl))) (le_var _)) (loA (va_cons stbE (lo (ve_var (i := 1) (by decide) rfl (by first | exact .inl rfl | exact .inr (.inl rfl) | exact .inr (.inr rfl))) (le_var _)) (loA va_nil le_nil)) le_cons)) le_cons))) (loG (vg_name (i := 4) (by decide) nd rfl (by first | exact .inl rfl | exact .inr rfl)) (lg_nm)) (vss_cons (vs_set (i := 5) (by decide) nd rfl (by first | exact .inl rfl | exact .inr rfl) (ve_bin od_add (VE.b (lo (ve_int) le_c)) (VE.b (ve_g tk rfl G__law_take hr (by decide) rfl (loA (va_cons stbE (lo (ve_var (i := 0) (by decide) rfl (by first | exact .inl rfl | exact .inr (.inl rfl) | exact .inr (.inr rfl))) (le_var _)) (loA (va_cons stbE (lo (ve_int) le_c) (loA va_nil le_nil)) le_cons)) le_cons))))) (vss_one (vs_dput (i := 3) (Room.u hr) (by decide) rfl (by first | exact .inl rfl | exact .inr (.inl rfl) | exact .inr (.inr rfl)) (lo (ve_var (i := 4) (by decide) rfl (by first | exact .inl rfl | exact .inr (.inl rfl) | exact .inr (.inr rfl))) (le_var _)) (ve_tup (va_cons stbE (lo (ve_var (i := 5) (by decide) rfl (by first | exact .inl rfl | exact .inr (.inl rfl) | exact .inr (.inr rfl))) (le_var _)) (va_cons stbE (ve_bin od_add (VE.b (lo (ve_var (i := 5) (by decide) rfl (by first | exact .inl rfl | exact .inr (.inl rfl) | exact .inr (.inr rfl))) (le_var _))) (VE.b (ve_g tk rfl G__law_take hr (by decide) rfl (loA (va_cons stbE (lo (ve_var (i := 0) (by decide) rfl (by first | exact .inl rfl | exact .inr (.inl rfl) | exact .inr (.inr rfl))) (le_var _)) (loA (va_cons stbE (lo (ve_var (i := 2) (by decide) rfl (by first | exact .inl rfl | exact .inr (.inl rfl) | exact .inr (.inr rfl))) (le_var _)) (loA va_nil le_nil)) le_cons)) le_cons)))) (loA va_nil le_nil)))))))) (vss_one (loS (vs_retO (i := 3) (by decide) rfl (by first | exact .inl rfl | exact .inr (.inl rfl) | exact .inr (.inr rfl))) ls_retV)))
abbrev k__law_one : Nat := 2
theorem sc__law_one : FnScope N__law_one ["_law_state", "_law_things"] (defScope (top 92)) := ⟨rfl, rfl, rfl, by decide +kernel, rfl, by decide +kernel, by decide +kernel⟩
theorem d__law_one {P : Program} {w : World} {K : PySem.W.Frag} {mg : Str → Option Value} {base : Heap} (G__law_take : GFn P w K mg base "_law_take" k__law_take ["_law_state", "_law_many"] (lift K 2 sp__law_take)) (f_len : mg "len" = none) : Body P w K mg base N__law_one "_law_one" (defScope (top 92)) 1 [] [] (defBody (top 92)) (B__law_one) := by
  have nd := sc__law_one.nd
  intro f cdv A outer s H E hr
  have tk := cx_tk (P := P) (w := w) (K := K) (mg := mg) (base := base) (N := N__law_one) (qual := "_law_one") (scope := defScope (top 92)) (f := f) (cdv := cdv) (A := A) (outer := outer) (s := s) (H := H) (E := E)
  have po := cx_po (P := P) (w := w) (K := K) (mg := mg) (base := base) (N := N__law_one) (qual := "_law_one") (scope := defScope (top 92)) (f := f) (cdv := cdv) (A := A) (outer := outer) (s := s) (H := H) (E := E)
  have uc := cx_uc (P := P) (w := w) (K := K) (mg := mg) (base := base) (N := N__law_one) (qual := "_law_one") (scope := defScope (top 92)) (f := f) (cdv := cdv) (A := A) (outer := outer) (s := s) (H := H) (E := E)
  exact vss_one (vs_ret (ve_sub (Room.u hr) (VE.b (lo (ve_var (i := 1) (by decide) rfl (by first | exact .inl rfl | exact .inr (.inl rfl) | exact .inr (.inr rfl))) (le_var _))) (VE.b (ve_g tk rfl G__law_take hr (by decide) rfl (loA (va_cons stbE (lo (ve_var (i := 0) (by decide) rfl (by first | exact .inl rfl | exact .inr (.inl rfl) | exact .inr (.inr rfl))) (le_var _)) (loA (va_cons stbE (lo (ve_callB cd_len rfl f_len boot_len (loA (va_cons stbB (VE.b (lo (ve_var (i := 1) (by decide) rfl (by first | exact .inl rfl | exact .inr (.inl rfl) | exact .inr (.inr rfl))) (le_var _))) (loA va_nil le_nil)) le_cons)) le_blt) (loA va_nil le_nil)) le_cons)) le_cons))) (fun _ _ => rfl)))
abbrev k__law_moment : Nat := 3
theorem sc__law_moment : FnScope N__law_moment ["_law_state", "_law_names_here"] (defScope (top 98)) := ⟨rfl, rfl, rfl, by decide +kernel, rfl, by decide +kernel, by decide +kernel⟩
theorem d__law_moment {P : Program} {w : World} {K : PySem.W.Frag} {mg : Str → Option Value} {base : Heap} (G__law_one : GFn P w K mg base "_law_one" k__law_one ["_law_state", "_law_things"] (lift K 2 sp__law_one)) (G__law_take : GFn P w K mg base "_law_take" k__law_take ["_law_state", "_law_many"] (lift K 2 sp__law_take)) : Body P w K mg base N__law_moment "_law_moment" (defScope (top 98)) 2 [] [] (defBody (top 98)) (B__law_moment) := by
  have nd := sc__law_moment.nd
  intro f cdv A outer s H E hr
  have tk := cx_tk (P := P) (w := w) (K := K) (mg := mg) (base := base) (N := N__law_moment) (qual := "_law_moment") (scope := defScope (top 98)) (f := f) (cdv := cdv) (A := A) (outer := outer) (s := s) (H := H) (E := E)
  have po := cx_po (P := P) (w := w) (K := K) (mg := mg) (base := base) (N := N__law_moment) (qual := "_law_moment") (scope := defScope (top 98)) (f := f) (cdv := cdv) (A := A) (outer := outer) (s := s) (H := H) (E := E)
  have uc := cx_uc (P := P) (w := w) (K := K) (mg := mg) (base := base) (N := N__law_moment) (qual := "_law_moment") (scope := defScope (top 98)) (f := f) (cdv := cdv) (A := A) (outer := outer) (s := s) (H := H) (E := E)
  exact vss_cons (vs_if (VW.t (vw_or (loT (vt_cmp (od_eq (Room.u64 hr)) (VE.b (lo (ve_var (i := 1) (by decide) rfl (by first | exact .inl rfl | exact .inr (.inl rfl) | exact .inr (.inr rfl))) (le_var _))) (VE.b (VF.ve (loF (vf_lst (loA va_nil le_nil)) le_lst))) (nomark _)) le_binT) (vw_or1 (vt_cmp (od_eq (Room.u64 hr)) (VE.b (ve_g tk rfl G__law_take hr (by decide) rfl (loA (va_cons stbE (lo (ve_var (i := 0) (by decide) rfl (by first | exact .inl rfl | exact .inr (.inl rfl) | exact .inr (.inr rfl))) (le_var _)) (loA (va_cons stbE (lo (ve_int) le_c) (loA va_nil le_nil)) le_cons)) le_cons))) (VE.b (lo (ve_int) le_c)) (nomark _))))) (vss_one (loS (vs_ret (lo (ve_str) le_c)) ls_ret)) (loSs vss_nil ls_nil)) (vss_one (vs_ret (ve_tup (va_cons stbE (ve_g tk rfl G__law_one hr (by decide) rfl (loA (va_cons stbE (lo (ve_var (i := 0) (by decide) rfl (by first | exact .inl rfl | exact .inr (.inl rfl) | exact .inr (.inr rfl))) (le_var _)) (loA (va_cons stbE (VF.ve (loF (vf_lst (loA (va_cons stbE (lo (ve_str) le_c) (loA (va_cons stbE (lo (ve_str) le_c) (loA (va_cons stbE (lo (ve_str) le_c) (loA va_nil le_nil)) le_cons)) le_cons)) le_cons)) le_lst)) (loA va_nil le_nil)) le_cons)) le_cons)) (va_cons stbE (ve_g tk rfl G__law_one hr (by decide) rfl (loA (va_cons stbE (lo (ve_var (i := 0) (by decide) rfl (by first | exact .inl rfl | exact .inr (.inl rfl) | exact .inr (.inr rfl))) (le_var _)) (loA (va_cons stbE (lo (ve_var (i := 1) (by decide) rfl (by first | exact .inl rfl | exact .inr (.inl rfl) | exact .inr (.inr rfl))) (le_var _)) (loA va_nil le_nil)) le_cons)) le_cons)) (loA va_nil le_nil))))))
abbrev k__law_wishes : Nat := 4
theorem sc__law_wishes : FnScope N__law_wishes ["_law_state", "_law_names_here", "_law_many"] (defScope (top 99)) := ⟨rfl, rfl, rfl, by decide +kernel, rfl, by decide +kernel, by decide +kernel⟩
theorem d__law_wishes {P : Program} {w : World} {K : PySem.W.Frag} {mg : Str → Option Value} {base : Heap} (G__law_moment : GFn P w K mg base "_law_moment" k__law_moment ["_law_state", "_law_names_here"] (lift K 2 sp__law_moment)) (G__law_one : GFn P w K mg base "_law_one" k__law_one ["_law_state", "_law_things"] (lift K 2 sp__law_one)) (G__law_take : GFn P w K mg base "_law_take" k__law_take ["_law_state", "_law_many"] (lift K 2 sp__law_take)) (f_range : mg "range" = none) : Body P w K mg base N__law_wishes "_law_wishes" (defScope (top 99)) 3 [] [3] (defBody (top 99)) (B__law_wishes) := by
  have nd := sc__law_wishes.nd
  intro f cdv A outer s H E hr
  have tk := cx_tk (P := P) (w := w) (K := K) (mg := mg) (base := base) (N := N__law_wishes) (qual := "_law_wishes") (scope := defScope (top 99)) (f := f) (cdv := cdv) (A := A) (outer := outer) (s := s) (H := H) (E := E)
  have po := cx_po (P := P) (w := w) (K := K) (mg := mg) (base := base) (N := N__law_wishes) (qual := "_law_wishes") (scope := defScope (top 99)) (f := f) (cdv := cdv) (A := A) (outer := outer) (s := s) (H := H) (E := E)
  have uc := cx_uc (P := P) (w := w) (K := K) (mg := mg) (base := base) (N := N__law_wishes) (qual := "_law_wishes") (scope := defScope (top 99)) (f := f) (cdv := cdv) (A := A) (outer := outer) (s := s) (H := H) (E := E)
  exact vss_cons (loS (vs_setF (i := 3) (by decide) (by decide) nd rfl (by first | exact .inl rfl | exact .inr rfl) (loF (vf_lst (loA va_nil le_nil)) le_lst)) ls_setF) (vss_cons (vs_for po rfl (vi_range1 rfl f_range (VE.b (ve_g tk rfl G__law_take hr (by decide) rfl (loA (va_cons stbE (lo (ve_var (i := 0) (by decide) rfl (by first | exact .inl rfl | exact .inr (.inl rfl) | exact .inr (.inr rfl))) (le_var _)) (loA (va_cons stbE (lo (ve_bin od_add (VE.b (lo (ve_var (i := 2) (by decide) rfl (by first | exact .inl rfl | exact .inr (.inl rfl) | exact .inr (.inr rfl))) (le_var _))) (VE.b (lo (ve_int) le_c))) le_bin) (loA va_nil le_nil)) le_cons)) le_cons)))) (loG (vg_name (i := 4) (by decide) nd rfl (by first | exact .inl rfl | exact .inr rfl)) (lg_nm)) (vss_cons (vs_par (i := 5) (j := 6) (by decide) (by decide) rfl nd rfl rfl (by decide) rfl rfl (ve_g tk rfl G__law_take hr (by decide) rfl (loA (va_cons stbE (lo (ve_var (i := 0) (by decide) rfl (by first | exact .inl rfl | exact .inr (.inl rfl) | exact .inr (.inr rfl))) (le_var _)) (loA (va_cons stbE (lo (ve_int) le_c) (loA va_nil le_nil)) le_cons)) le_cons)) (ve_g tk rfl G__law_take hr (by decide) rfl (loA (va_cons stbE (lo (ve_var (i := 0) (by decide) rfl (by first | exact .inl rfl | exact .inr (.inl rfl) | exact .inr (.inr rfl))) (le_var _)) (loA (va_cons stbE (lo (ve_int) le_c) (loA va_nil le_nil)) le_cons)) le_cons)) rfl) (vss_cons (vs_par (i := 7) (j := 8) (by decide) (by decide) rfl nd rfl rfl (by decide) rfl rfl (ve_g tk rfl G__law_moment hr (by decide) rfl (loA (va_cons stbE (lo (ve_var (i := 0) (by decide) rfl (by first | exact .inl rfl | exact .inr (.inl rfl) | exact .inr (.inr rfl))) (le_var _)) (loA (va_cons stbE (lo (ve_var (i := 1) (by decide) rfl (by first | exact .inl rfl | exact .inr (.inl rfl) | exact .inr (.inr rfl))) (le_var _)) (loA va_nil le_nil)) le_cons)) le_cons)) (ve_g tk rfl G__law_moment hr (by decide) rfl (loA (va_cons stbE (lo (ve_var (i := 0) (by decide) rfl (by first | exact .inl rfl | exact .inr (.inl rfl) | exact .inr (.inr rfl))) (le_var _)) (loA (va_cons stbE (lo (ve_var (i := 1) (by decide) rfl (by first | exact .inl rfl | exact .inr (.inl rfl) | exact .inr (.inr rfl))) (le_var _)) (loA va_nil le_nil)) le_cons)) le_cons)) rfl) (vss_cons (vs_if (VW.t (loW (vw_and (loT (vt_cmp od_lt (VE.b (lo (ve_var (i := 5) (by decide) rfl (by first | exact .inl rfl | exact .inr (.inl rfl) | exact .inr (.inr rfl))) (le_var _))) (VE.b (lo (ve_int) le_c)) (nomark _)) le_binT) (vw_and1 (loT (vt_cmp (od_ne (Room.u64 hr)) (VE.b (lo (ve_var (i := 1) (by decide) rfl (by first | exact .inl rfl | exact .inr (.inl rfl) | exact .inr (.inr rfl))) (le_var _))) (VE.b (VF.ve (loF (vf_lst (loA va_nil le_nil)) le_lst))) (nomark _)) le_binT))) le_andT)) (vss_one (vs_par (i := 7) (j := 8) (by decide) (by decide) rfl nd rfl rfl (by decide) rfl rfl (ve_tup (va_cons stbE (lo (ve_str) le_c) (va_cons stbE (ve_g tk rfl G__law_one hr (by decide) rfl (loA (va_cons stbE (lo (ve_var (i := 0) (by decide) rfl (by first | exact .inl rfl | exact .inr (.inl rfl) | exact .inr (.inr rfl))) (le_var _)) (loA (va_cons stbE (lo (ve_var (i := 1) (by decide) rfl (by first | exact .inl rfl | exact .inr (.inl rfl) | exact .inr (.inr rfl))) (le_var _)) (loA va_nil le_nil)) le_cons)) le_cons)) (loA va_nil le_nil)))) (ve_tup (va_cons stbE (lo (ve_str) le_c) (va_cons stbE (ve_g tk rfl G__law_one hr (by decide) rfl (loA (va_cons stbE (lo (ve_var (i := 0) (by decide) rfl (by first | exact .inl rfl | exact .inr (.inl rfl) | exact .inr (.inr rfl))) (le_var _)) (loA (va_cons stbE (lo (ve_var (i := 1) (by decide) rfl (by first | exact .inl rfl | exact .inr (.inl rfl) | exact .inr (.inr rfl))) (le_var _)) (loA va_nil le_nil)) le_cons)) le_cons)) (loA va_nil le_nil)))) rfl)) (vss_one (vs_if (VW.t (loW (vw_and (loT (vt_cmp (od_eq (Room.u64 hr)) (VE.b (lo (ve_var (i := 5) (by decide) rfl (by first | exact .inl rfl | exact .inr (.inl rfl) | exact .inr (.inr rfl))) (le_var _))) (VE.b (lo (ve_int) le_c)) (nomark _)) le_binT) (vw_and1 (loT (vt_cmp (od_ne (Room.u64 hr)) (VE.b (lo (ve_var (i := 1) (by decide) rfl (by first | exact .inl rfl | exact .inr (.inl rfl) | exact .inr (.inr rfl))) (le_var _))) (VE.b (VF.ve (loF (vf_lst (loA va_nil le_nil)) le_lst))) (nomark _)) le_binT))) le_andT)) (vss_one (vs_par3 (i := 7) (j := 8) (l := 6) (by decide) (by decide) (by decide) rfl nd rfl rfl rfl (by decide) (by decide) (by decide) rfl rfl rfl (lo (ve_str) le_c) (ve_tup (va_cons stbE (lo (ve_str) le_c) (va_cons stbE (ve_g tk rfl G__law_one hr (by decide) rfl (loA (va_cons stbE (lo (ve_var (i := 0) (by decide) rfl (by first | exact .inl rfl | exact .inr (.inl rfl) | exact .inr (.inr rfl))) (le_var _)) (loA (va_cons stbE (lo (ve_var (i := 1) (by decide) rfl (by first | exact .inl rfl | exact .inr (.inl rfl) | exact .inr (.inr rfl))) (le_var _)) (loA va_nil le_nil)) le_cons)) le_cons)) (loA va_nil le_nil)))) (lo (ve_bin od_add (VE.b (lo (ve_int) le_c)) (VE.b (lo (ve_bin od_mul (VE.b (lo (ve_int) le_c)) (VE.b (lo (ve_var (i := 6) (by decide) rfl (by first | exact .inl rfl | exact .inr (.inl rfl) | exact .inr (.inr rfl))) (le_var _)))) le_bin))) le_bin) rfl)) (loSs vss_nil ls_nil)))) (vss_one (loS (vs_append (i := 3) (by decide) rfl (by first | exact .inl rfl | exact .inr (.inl rfl) | exact .inr (.inr rfl)) (lo (ve_tup (loA (va_cons stbE (lo (ve_var (i := 7) (by decide) rfl (by first | exact .inl rfl | exact .inr (.inl rfl) | exact .inr (.inr rfl))) (le_var _)) (loA (va_cons stbE (lo (ve_var (i := 8) (by decide) rfl (by first | exact .inl rfl | exact .inr (.inl rfl) | exact .inr (.inr rfl))) (le_var _)) (loA (va_cons stbE (lo (ve_ifExp (loT (vt_cmp od_gt (VE.b (lo (ve_var (i := 5) (by decide) rfl (by first | exact .inl rfl | exact .inr (.inl rfl) | exact .inr (.inr rfl))) (le_var _))) (VE.b (lo (ve_int) le_c)) (nomark _)) le_binT) (lo (ve_bin od_sub (VE.b (lo (ve_var (i := 6) (by decide) rfl (by first | exact .inl rfl | exact .inr (.inl rfl) | exact .inr (.inr rfl))) (le_var _))) (VE.b (lo (ve_int) le_c))) le_bin) (lo (ve_var (i := 6) (by decide) rfl (by first | exact .inl rfl | exact .inr (.inl rfl) | exact .inr (.inr rfl))) (le_var _))) le_if) (loA va_nil le_nil)) le_cons)) le_cons)) le_cons)) le_tup)) ls_app)))))) (vss_one (loS (vs_retO (i := 3) (by decide) rfl (by first | exact .inl rfl | exact .inr (.inl rfl) | exact .inr (.inr rfl))) ls_retV)))
abbrev k__law_meal : Nat := 5
theorem sc__law_meal : FnScope N__law_meal ["_law_state", "_law_many", "_law_wide", "_law_wishes_here"] (defScope (top 100)) := ⟨rfl, rfl, rfl, by decide +kernel, rfl, by decide +kernel, by decide +kernel⟩
theorem d__law_meal {P : Program} {w : World} {K : PySem.W.Frag} {mg : Str → Option Value} {base : Heap} (G__law_dishes : GFn P w K mg base "_law_dishes" k__law_dishes ["_law_state", "_law_names_here", "_law_wide"] (lift K 3 sp__law_dishes)) (G__law_names : GFn P w K mg base "_law_names" k__law_names ["_law_state", "_law_many"] (lift K 2 sp__law_names)) (G__law_wishes : GFn P w K mg base "_law_wishes" k__law_wishes ["_law_state", "_law_names_here", "_law_many"] (lift K 3 sp__law_wishes)) : Body P w K mg base N__law_meal "_law_meal" (defScope (top 100)) 4 [] [] (defBody (top 100)) (B__law_meal) := by
  have nd := sc__law_meal.nd
  intro f cdv A outer s H E hr
  have tk := cx_tk (P := P) (w := w) (K := K) (mg := mg) (base := base) (N := N__law_meal) (qual := "_law_meal") (scope := defScope (top 100)) (f := f) (cdv := cdv) (A := A) (outer := outer) (s := s) (H := H) (E := E)
  have po := cx_po (P := P) (w := w) (K := K) (mg := mg) (base := base) (N := N__law_meal) (qual := "_law_meal") (scope := defScope (top 100)) (f := f) (cdv := cdv) (A := A) (outer := outer) (s := s) (H := H) (E := E)
  have uc := cx_uc (P := P) (w := w) (K := K) (mg := mg) (base := base) (N := N__law_meal) (qual := "_law_meal") (scope := defScope (top 100)) (f := f) (cdv := cdv) (A := A) (outer := outer) (s := s) (H := H) (E := E)
  exact vss_cons (vs_set (i := 4) (by decide) nd rfl (by first | exact .inl rfl | exact .inr rfl) (ve_g tk rfl G__law_names hr (by decide) rfl (loA (va_cons stbE (lo (ve_var (i := 0) (by decide) rfl (by first | exact .inl rfl | exact .inr (.inl rfl) | exact .inr (.inr rfl))) (le_var _)) (loA (va_cons stbE (lo (ve_var (i := 1) (by decide) rfl (by first | exact .inl rfl | exact .inr (.inl rfl) | exact .inr (.inr rfl))) (le_var _)) (loA va_nil le_nil)) le_cons)) le_cons))) (vss_cons (vs_set (i := 5) (by decide) nd rfl (by first | exact .inl rfl | exact .inr rfl) (ve_g tk rfl G__law_dishes hr (by decide) rfl (loA (va_cons stbE (lo (ve_var (i := 0) (by decide) rfl (by first | exact .inl rfl | exact .inr (.inl rfl) | exact .inr (.inr rfl))) (le_var _)) (loA (va_cons stbE (lo (ve_var (i := 4) (by decide) rfl (by first | exact .inl rfl | exact .inr (.inl rfl) | exact .inr (.inr rfl))) (le_var _)) (loA (va_cons stbE (lo (ve_var (i := 2) (by decide) rfl (by first | exact .inl rfl | exact .inr (.inl rfl) | exact .inr (.inr rfl))) (le_var _)) (loA va_nil le_nil)) le_cons)) le_cons)) le_cons))) (vss_one (vs_ret (ve_tup (va_cons stbE (lo (ve_var (i := 5) (by decide) rfl (by first | exact .inl rfl | exact .inr (.inl rfl) | exact .inr (.inr rfl))) (le_var _)) (va_cons stbE (ve_g tk rfl G__law_wishes hr (by decide) rfl (loA (va_cons stbE (lo (ve_var (i := 0) (by decide) rfl (by first | exact .inl rfl | exact .inr (.inl rfl) | exact .inr (.inr rfl))) (le_var _)) (loA (va_cons stbE (lo (ve_var (i := 4) (by decide) rfl (by first | exact .inl rfl | exact .inr (.inl rfl) | exact .inr (.inr rfl))) (le_var _)) (loA (va_cons stbE (lo (ve_var (i := 3) (by decide) rfl (by first | exact .inl rfl | exact .inr (.inl rfl) | exact .inr (.inr rfl))) (le_var _)) (loA va_nil le_nil)) le_cons)) le_cons)) le_cons)) (loA va_nil le_nil)))))))
abbrev k_is_name : Nat := 1
theorem sc_is_name : FnScope N_is_name ["thing"] (defScope (top 20)) := ⟨rfl, rfl, rfl, by decide +kernel, rfl, by decide +kernel, by decide +kernel⟩
theorem d_is_name {P : Program} {w : World} {K : PySem.W.Frag} {mg : Str → Option Value} {base : Heap} (c_CLOCK : ∃ t, mg "CLOCK" = some (.str "clock" t)) (c_LETTERS : ∃ t, mg "LETTERS" = some (.str "abcdefghijklmnopqrstuvwxyz" t)) (c_MOST_LETTERS : ∃ t, mg "MOST_LETTERS" = some (.int 8 t)) (f_all : mg "all" = none) (f_isinstance : mg "isinstance" = none) (f_len : mg "len" = none) (f_str : mg "str" = none) : Body P w K mg base N_is_name "is_name" (defScope (top 20)) 0 [] [] (defBody (top 20)) (upS (B_is_name)) := by
  have nd := sc_is_name.nd
  intro f cdv A outer s H E hr
  have tk := cx_tk (P := P) (w := w) (K := K) (mg := mg) (base := base) (N := N_is_name) (qual := "is_name") (scope := defScope (top 20)) (f := f) (cdv := cdv) (A := A) (outer := outer) (s := s) (H := H) (E := E)
  have po := cx_po (P := P) (w := w) (K := K) (mg := mg) (base := base) (N := N_is_name) (qual := "is_name") (scope := defScope (top 20)) (f := f) (cdv := cdv) (A := A) (outer := outer) (s := s) (H := H) (E := E)
  have uc := cx_uc (P := P) (w := w) (K := K) (mg := mg) (base := base) (N := N_is_name) (qual := "is_name") (scope := defScope (top 20)) (f := f) (cdv := cdv) (A := A) (outer := outer) (s := s) (H := H) (E := E)
  exact loSs (vss_cons (loS (vs_if (VW.t (loW (vw_or (loT (vt_not (loT (vt_val (lo (ve_callB cd_isi rfl f_isinstance boot_isinstance (loA (va_cons stbB (VE.b (lo (ve_var (i := 0) (by decide) rfl (by first | exact .inl rfl | exact .inr (.inl rfl) | exact .inr (.inr rfl))) (le_var _))) (loA (va_cons stbB (VE.b (lo (ve_bty (T := "str") rfl f_str boot_str) le_c)) (loA va_nil le_nil)) le_cons)) le_cons)) le_blt)) le_val)) le_notT) (loW (vw_or (loT (vt_cmp (od_eq (Room.u64 hr)) (VE.b (lo (ve_var (i := 0) (by decide) rfl (by first | exact .inl rfl | exact .inr (.inl rfl) | exact .inr (.inr rfl))) (le_var _))) (VE.b (lo (ve_gstr rfl c_CLOCK) le_c)) (nomark _)) le_binT) (vw_or1 (loT (vt_not (loT (vt_chain od_le od_le (VE.b (lo (ve_int) le_c)) (VE.b (lo (ve_callB cd_len rfl f_len boot_len (loA (va_cons stbB (VE.b (lo (ve_var (i := 0) (by decide) rfl (by first | exact .inl rfl | exact .inr (.inl rfl) | exact .inr (.inr rfl))) (le_var _))) (loA va_nil le_nil)) le_cons)) le_blt)) (VE.b (lo (ve_gint rfl c_MOST_LETTERS) le_c))) le_chainT)) le_notT))) le_orT)) le_orT)) (vss_one (loS (vs_ret (lo (ve_bl) le_c)) ls_ret)) (loSs vss_nil ls_nil)) ls_if) (vss_one (loS (vs_ret (lo (ve_callB (cd_all rfl) rfl f_all boot_all (loA (va_cons stbB (VE.b (VF.ve (loF (xf_lc rfl rfl nd (VIs.vi (loIs (vi_seq (lo (ve_var (i := 0) (by decide) rfl (by first | exact .inl rfl | exact .inr (.inl rfl) | exact .inr (.inr rfl))) (le_var _))) le_iter)) (blkOk_by (own := [("sign", 1)]) (N := N_is_name) (sc := defScope (top 20)) (by decide +kernel)) (by decide) (by decide) (fun c => loG (vg_name (i := 1) (by decide) nd rfl (by first | exact .inl rfl | exact .inr rfl)) (lg_nm)) (fun c => loTs vts_nil le_yes) (fun c => lo (ve_cmp (od_in (Room.u65 hr)) (VE.b (lo (ve_var (i := 1) (by decide) rfl (by first | exact .inl rfl | exact .inr (.inl rfl) | exact .inr (.inr rfl))) (le_var _))) (VE.b (lo (ve_gstr rfl c_LETTERS) le_c)) rfl) le_bin)) le_lc))) (loA va_nil le_nil)) le_cons)) le_blt)) ls_ret))) ls_seq
abbrev k_is_list : Nat := 1
theorem sc_is_list : FnScope N_is_list ["thing"] (defScope (top 18)) := ⟨rfl, rfl, rfl, by decide +kernel, rfl, by decide +kernel, by decide +kernel⟩
theorem d_is_list {P : Program} {w : World} {K : PySem.W.Frag} {mg : Str → Option Value} {base : Heap} (f_isinstance : mg "isinstance" = none) (f_list : mg "list" = none) (f_tuple : mg "tuple" = none) : Body P w K mg base N_is_list "is_list" (defScope (top 18)) 0 [] [] (defBody (top 18)) (upS (B_is_list)) := by
  have nd := sc_is_list.nd
  intro f cdv A outer s H E hr
  have tk := cx_tk (P := P) (w := w) (K := K) (mg := mg) (base := base) (N := N_is_list) (qual := "is_list") (scope := defScope (top 18)) (f := f) (cdv := cdv) (A := A) (outer := outer) (s := s) (H := H) (E := E)
  have po := cx_po (P := P) (w := w) (K := K) (mg := mg) (base := base) (N := N_is_list) (qual := "is_list") (scope := defScope (top 18)) (f := f) (cdv := cdv) (A := A) (outer := outer) (s := s) (H := H) (E := E)
  have uc := cx_uc (P := P) (w := w) (K := K) (mg := mg) (base := base) (N := N_is_list) (qual := "is_list") (scope := defScope (top 18)) (f := f) (cdv := cdv) (A := A) (outer := outer) (s := s) (H := H) (E := E)
  exact vss_one (loS (vs_ret (lo (ve_callB cd_isi rfl f_isinstance boot_isinstance (loA (va_cons stbB (VE.b (lo (ve_var (i := 0) (by decide) rfl (by first | exact .inl rfl | exact .inr (.inl rfl) | exact .inr (.inr rfl))) (le_var _))) (loA (va_cons stbB (VE.b (lo (ve_tup (loA (va_cons stbE (lo (ve_bty (T := "list") rfl f_list boot_list) le_c) (loA (va_cons stbE (lo (ve_bty (T := "tuple") rfl f_tuple boot_tuple) le_c) (loA va_nil le_nil)) le_cons)) le_cons)) le_tup)) (loA va_nil le_nil)) le_cons)) le_cons)) le_blt)) ls_ret)
abbrev k_is_integer : Nat := 1
theorem sc_is_integer : FnScope N_is_integer ["thing"] (defScope (top 19)) := ⟨rfl, rfl, rfl, by decide +kernel, rfl, by decide +kernel, by decide +kernel⟩
theorem d_is_integer {P : Program} {w : World} {K : PySem.W.Frag} {mg : Str → Option Value} {base : Heap} (f_bool : mg "bool" = none) (f_int : mg "int" = none) (f_isinstance : mg "isinstance" = none) : Body P w K mg base N_is_integer "is_integer" (defScope (top 19)) 0 [] [] (defBody (top 19)) (upS (B_is_integer)) := by
  have nd := sc_is_integer.nd
  intro f cdv A outer s H E hr
  have tk := cx_tk (P := P) (w := w) (K := K) (mg := mg) (base := base) (N := N_is_integer) (qual := "is_integer") (scope := defScope (top 19)) (f := f) (cdv := cdv) (A := A) (outer := outer) (s := s) (H := H) (E := E)
  have po := cx_po (P := P) (w := w) (K := K) (mg := mg) (base := base) (N := N_is_integer) (qual := "is_integer") (scope := defScope (top 19)) (f := f) (cdv := cdv) (A := A) (outer := outer) (s := s) (H := H) (E := E)
  have uc := cx_uc (P := P) (w := w) (K := K) (mg := mg) (base := base) (N := N_is_integer) (qual := "is_integer") (scope := defScope (top 19)) (f := f) (cdv := cdv) (A := A) (outer := outer) (s := s) (H := H) (E := E)
  exact vss_one (loS (vs_ret (lo (ve_and (lo (ve_callB cd_isi rfl f_isinstance boot_isinstance (loA (va_cons stbB (VE.b (lo (ve_var (i := 0) (by decide) rfl (by first | exact .inl rfl | exact .inr (.inl rfl) | exact .inr (.inr rfl))) (le_var _))) (loA (va_cons stbB (VE.b (lo (ve_bty (T := "int") rfl f_int boot_int) le_c)) (loA va_nil le_nil)) le_cons)) le_cons)) le_blt) (ve_one (lo (ve_not (lo (ve_callB cd_isi rfl f_isinstance boot_isinstance (loA (va_cons stbB (VE.b (lo (ve_var (i := 0) (by decide) rfl (by first | exact .inl rfl | exact .inr (.inl rfl) | exact .inr (.inr rfl))) (le_var _))) (loA (va_cons stbB (VE.b (lo (ve_bty (T := "bool") rfl f_bool boot_bool) le_c)) (loA va_nil le_nil)) le_cons)) le_cons)) le_blt)) le_not))) le_and)) ls_ret)
abbrev k_are_bounds : Nat := 2
theorem sc_are_bounds : FnScope N_are_bounds ["thing"] (defScope (top 28)) := ⟨rfl, rfl, rfl, by decide +kernel, rfl, by decide +kernel, by decide +kernel⟩
theorem d_are_bounds {P : Program} {w : World} {K : PySem.W.Frag} {mg : Str → Option Value} {base : Heap} (G_is_integer : GFn P w K mg base "is_integer" k_is_integer ["thing"] (lift K 1 (FSp.of f_is_integer))) (G_is_list : GFn P w K mg base "is_list" k_is_list ["thing"] (lift K 1 (FSp.of f_is_list))) (f_len : mg "len" = none) : Body P w K mg base N_are_bounds "are_bounds" (defScope (top 28)) 1 [] [] (defBody (top 28)) (upS (B_are_bounds)) := by
  have nd := sc_are_bounds.nd
  intro f cdv A outer s H E hr
  have tk := cx_tk (P := P) (w := w) (K := K) (mg := mg) (base := base) (N := N_are_bounds) (qual := "are_bounds") (scope := defScope (top 28)) (f := f) (cdv := cdv) (A := A) (outer := outer) (s := s) (H := H) (E := E)
  have po := cx_po (P := P) (w := w) (K := K) (mg := mg) (base := base) (N := N_are_bounds) (qual := "are_bounds") (scope := defScope (top 28)) (f := f) (cdv := cdv) (A := A) (outer := outer) (s := s) (H := H) (E := E)
  have uc := cx_uc (P := P) (w := w) (K := K) (mg := mg) (base := base) (N := N_are_bounds) (qual := "are_bounds") (scope := defScope (top 28)) (f := f) (cdv := cdv) (A := A) (outer := outer) (s := s) (H := H) (E := E)
  exact loSs (vss_cons (loS (vs_if (VW.t (loW (vw_or (loT (vt_not (loT (vt_val (lo (ve_g tk rfl G_is_list hr (by decide) rfl (loA (va_cons stbE (lo (ve_var (i := 0) (by decide) rfl (by first | exact .inl rfl | exact .inr (.inl rfl) | exact .inr (.inr rfl))) (le_var _)) (loA va_nil le_nil)) le_cons)) le_call)) le_val)) le_notT) (loW (vw_or (loT (vt_cmp (od_ne (Room.u64 hr)) (VE.b (lo (ve_callB cd_len rfl f_len boot_len (loA (va_cons stbB (VE.b (lo (ve_var (i := 0) (by decide) rfl (by first | exact .inl rfl | exact .inr (.inl rfl) | exact .inr (.inr rfl))) (le_var _))) (loA va_nil le_nil)) le_cons)) le_blt)) (VE.b (lo (ve_int) le_c)) (nomark _)) le_binT) (loW (vw_or (loT (vt_not (loT (vt_val (lo (ve_g tk rfl G_is_integer hr (by decide) rfl (loA (va_cons stbE (lo (ve_sub (Room.u hr) (VE.b (lo (ve_var (i := 0) (by decide) rfl (by first | exact .inl rfl | exact .inr (.inl rfl) | exact .inr (.inr rfl))) (le_var _))) (VE.b (lo (ve_int) le_c)) (fun _ _ => rfl)) le_bin) (loA va_nil le_nil)) le_cons)) le_call)) le_val)) le_notT) (vw_or1 (loT (vt_not (loT (vt_val (lo (ve_g tk rfl G_is_integer hr (by decide) rfl (loA (va_cons stbE (lo (ve_sub (Room.u hr) (VE.b (lo (ve_var (i := 0) (by decide) rfl (by first | exact .inl rfl | exact .inr (.inl rfl) | exact .inr (.inr rfl))) (le_var _))) (VE.b (lo (ve_int) le_c)) (fun _ _ => rfl)) le_bin) (loA va_nil le_nil)) le_cons)) le_call)) le_val)) le_notT))) le_orT)) le_orT)) le_orT)) (vss_one (loS (vs_ret (lo (ve_bl) le_c)) ls_ret)) (loSs vss_nil ls_nil)) ls_if) (vss_one (loS (vs_ret (lo (ve_chain od_le od_le (VE.b (lo (ve_int) le_c)) (VE.b (lo (ve_sub (Room.u hr) (VE.b (lo (ve_var (i := 0) (by decide) rfl (by first | exact .inl rfl | exact .inr (.inl rfl) | exact .inr (.inr rfl))) (le_var _))) (VE.b (lo (ve_int) le_c)) (fun _ _ => rfl)) le_bin)) (VE.b (lo (ve_sub (Room.u hr) (VE.b (lo (ve_var (i := 0) (by decide) rfl (by first | exact .inl rfl | exact .inr (.inl rfl) | exact .inr (.inr rfl))) (le_var _))) (VE.b (lo (ve_int) le_c)) (fun _ _ => rfl)) le_bin))) le_chain)) ls_ret))) ls_seq
abbrev k_rising : Nat := 1
theorem sc_rising : FnScope N_rising ["things"] (defScope (top 23)) := ⟨rfl, rfl, rfl, by decide +kernel, rfl, by decide +kernel, by decide +kernel⟩
theorem d_rising {P : Program} {w : World} {K : PySem.W.Frag} {mg : Str → Option Value} {base : Heap} (f_len : mg "len" = none) : Body P w K mg base N_rising "rising" (defScope (top 23)) 0 [] [1] (defBody (top 23)) (upS (B_rising)) := by
  have nd := sc_rising.nd
  intro f cdv A outer s H E hr
  have tk := cx_tk (P := P) (w := w) (K := K) (mg := mg) (base := base) (N := N_rising) (qual := "rising") (scope := defScope (top 23)) (f := f) (cdv := cdv) (A := A) (outer := outer) (s := s) (H := H) (E := E)
  have po := cx_po (P := P) (w := w) (K := K) (mg := mg) (base := base) (N := N_rising) (qual := "rising") (scope := defScope (top 23)) (f := f) (cdv := cdv) (A := A) (outer := outer) (s := s) (H := H) (E := E)
  have uc := cx_uc (P := P) (w := w) (K := K) (mg := mg) (base := base) (N := N_rising) (qual := "rising") (scope := defScope (top 23)) (f := f) (cdv := cdv) (A := A) (outer := outer) (s := s) (H := H) (E := E)
  exact loSs (vss_cons (loS (vs_setF (i := 1) (by decide) (by decide) nd rfl (by first | exact .inl rfl | exact .inr rfl) (loF (vf_lst (loA va_nil le_nil)) le_lst)) ls_setF) (loSs (vss_cons (loS (vs_for po rfl (loIs (vi_seq (lo (ve_var (i := 0) (by decide) rfl (by first | exact .inl rfl | exact .inr (.inl rfl) | exact .inr (.inr rfl))) (le_var _))) le_iter) (loG (vg_name (i := 2) (by decide) nd rfl (by first | exact .inl rfl | exact .inr rfl)) (lg_nm)) ((show VSs _ _ _ _ _ _ (upS (b_rising_1)) from vss_one (loS (vs_insert (i := 1) (by decide) rfl (by first | exact .inl rfl | exact .inr (.inl rfl) | exact .inr (.inr rfl)) (loA (va_cons stbE (lo (ve_callB cd_len rfl f_len boot_len (loA (va_cons stbB (VE.b (VF.ve (loF (xf_lc rfl rfl nd (loI (vi_ownS (i := 1) rfl (by decide) rfl (by first | exact .inl rfl | exact .inr (.inl rfl) | exact .inr (.inr rfl))) le_own) (blkOk_by (own := [("one", 3)]) (N := N_rising) (sc := defScope (top 23)) (by decide +kernel)) (by decide) (by decide) (fun c => loG (vg_name (i := 3) (by decide) nd rfl (by first | exact .inl rfl | exact .inr rfl)) (lg_nm)) (fun c => vts_one (loT (vt_cmp od_le (VE.b (lo (ve_var (i := 3) (by decide) rfl (by first | exact .inl rfl | exact .inr (.inl rfl) | exact .inr (.inr rfl))) (le_var _))) (VE.b (lo (ve_var (i := 2) (by decide) rfl (by first | exact .inl rfl | exact .inr (.inl rfl) | exact .inr (.inr rfl))) (le_var _))) (nomark _)) le_binT)) (fun c => lo (ve_var (i := 3) (by decide) rfl (by first | exact .inl rfl | exact .inr (.inl rfl) | exact .inr (.inr rfl))) (le_var _))) le_lc))) (loA va_nil le_nil)) le_cons)) le_blt) (loA (va_cons stbE (lo (ve_var (i := 2) (by decide) rfl (by first | exact .inl rfl | exact .inr (.inl rfl) | exact .inr (.inr rfl))) (le_var _)) (loA va_nil le_nil)) le_cons)) le_cons)) ls_ins)))) ls_for) (vss_one (loS (vs_retO (i := 1) (by decide) rfl (by first | exact .inl rfl | exact .inr (.inl rfl) | exact .inr (.inr rfl))) ls_retV))) ls_seq)) ls_seq
abbrev k_is_among : Nat := 1
theorem sc_is_among : FnScope N_is_among ["thing", "names"] (defScope (top 21)) := ⟨rfl, rfl, rfl, by decide +kernel, rfl, by decide +kernel, by decide +kernel⟩
theorem d_is_among {P : Program} {w : World} {K : PySem.W.Frag} {mg : Str → Option Value} {base : Heap} (f_isinstance : mg "isinstance" = none) (f_str : mg "str" = none) : Body P w K mg base N_is_among "is_among" (defScope (top 21)) 0 [] [] (defBody (top 21)) (upS (B_is_among)) := by
  have nd := sc_is_among.nd
  intro f cdv A outer s H E hr
  have tk := cx_tk (P := P) (w := w) (K := K) (mg := mg) (base := base) (N := N_is_among) (qual := "is_among") (scope := defScope (top 21)) (f := f) (cdv := cdv) (A := A) (outer := outer) (s := s) (H := H) (E := E)
  have po := cx_po (P := P) (w := w) (K := K) (mg := mg) (base := base) (N := N_is_among) (qual := "is_among") (scope := defScope (top 21)) (f := f) (cdv := cdv) (A := A) (outer := outer) (s := s) (H := H) (E := E)
  have uc := cx_uc (P := P) (w := w) (K := K) (mg := mg) (base := base) (N := N_is_among) (qual := "is_among") (scope := defScope (top 21)) (f := f) (cdv := cdv) (A := A) (outer := outer) (s := s) (H := H) (E := E)
  exact vss_one (loS (vs_ret (lo (ve_and (lo (ve_callB cd_isi rfl f_isinstance boot_isinstance (loA (va_cons stbB (VE.b (lo (ve_var (i := 0) (by decide) rfl (by first | exact .inl rfl | exact .inr (.inl rfl) | exact .inr (.inr rfl))) (le_var _))) (loA (va_cons stbB (VE.b (lo (ve_bty (T := "str") rfl f_str boot_str) le_c)) (loA va_nil le_nil)) le_cons)) le_cons)) le_blt) (ve_one (lo (ve_cmp (od_in (Room.u65 hr)) (VE.b (lo (ve_var (i := 0) (by decide) rfl (by first | exact .inl rfl | exact .inr (.inl rfl) | exact .inr (.inr rfl))) (le_var _))) (VE.b (lo (ve_var (i := 1) (by decide) rfl (by first | exact .inl rfl | exact .inr (.inl rfl) | exact .inr (.inr rfl))) (le_var _))) rfl) le_bin))) le_and)) ls_ret)
abbrev k_is_moment : Nat := 2
theorem sc_is_moment : FnScope N_is_moment ["thing", "names"] (defScope (top 24)) := ⟨rfl, rfl, rfl, by decide +kernel, rfl, by decide +kernel, by decide +kernel⟩
theorem d_is_moment {P : Program} {w : World} {K : PySem.W.Frag} {mg : Str → Option Value} {base : Heap} (G_is_among : GFn P w K mg base "is_among" k_is_among ["thing", "names"] (lift K 2 (FSp.of f_is_among))) (G_is_list : GFn P w K mg base "is_list" k_is_list ["thing"] (lift K 1 (FSp.of f_is_list))) (c_CLOCK : ∃ t, mg "CLOCK" = some (.str "clock" t)) (f_isinstance : mg "isinstance" = none) (f_len : mg "len" = none) (f_str : mg "str" = none) : Body P w K mg base N_is_moment "is_moment" (defScope (top 24)) 1 [] [] (defBody (top 24)) (upS (B_is_moment)) := by
  have nd := sc_is_moment.nd
  intro f cdv A outer s H E hr
  have tk := cx_tk (P := P) (w := w) (K := K) (mg := mg) (base := base) (N := N_is_moment) (qual := "is_moment") (scope := defScope (top 24)) (f := f) (cdv := cdv) (A := A) (outer := outer) (s := s) (H := H) (E := E)
  have po := cx_po (P := P) (w := w) (K := K) (mg := mg) (base := base) (N := N_is_moment) (qual := "is_moment") (scope := defScope (top 24)) (f := f) (cdv := cdv) (A := A) (outer := outer) (s := s) (H := H) (E := E)
  have uc := cx_uc (P := P) (w := w) (K := K) (mg := mg) (base := base) (N := N_is_moment) (qual := "is_moment") (scope := defScope (top 24)) (f := f) (cdv := cdv) (A := A) (outer := outer) (s := s) (H := H) (E := E)
  exact loSs (vss_cons (loS (vs_if (loT (vt_not (loT (vt_val (lo (ve_g tk rfl G_is_list hr (by decide) rfl (loA (va_cons stbE (lo (ve_var (i := 0) (by decide) rfl (by first | exact .inl rfl | exact .inr (.inl rfl) | exact .inr (.inr rfl))) (le_var _)) (loA va_nil le_nil)) le_cons)) le_call)) le_val)) le_notT) (vss_one (loS (vs_ret (lo (ve_and (lo (ve_callB cd_isi rfl f_isinstance boot_isinstance (loA (va_cons stbB (VE.b (lo (ve_var (i := 0) (by decide) rfl (by first | exact .inl rfl | exact .inr (.inl rfl) | exact .inr (.inr rfl))) (le_var _))) (loA (va_cons stbB (VE.b (lo (ve_bty (T := "str") rfl f_str boot_str) le_c)) (loA va_nil le_nil)) le_cons)) le_cons)) le_blt) (ve_one (lo (ve_cmp (od_eq (Room.u64 hr)) (VE.b (lo (ve_var (i := 0) (by decide) rfl (by first | exact .inl rfl | exact .inr (.inl rfl) | exact .inr (.inr rfl))) (le_var _))) (VE.b (lo (ve_gstr rfl c_CLOCK) le_c)) (nomark _)) le_bin))) le_and)) ls_ret)) (loSs vss_nil ls_nil)) ls_if) (vss_one (loS (vs_ret (lo (ve_and (lo (ve_cmp (od_eq (Room.u64 hr)) (VE.b (lo (ve_callB cd_len rfl f_len boot_len (loA (va_cons stbB (VE.b (lo (ve_var (i := 0) (by decide) rfl (by first | exact .inl rfl | exact .inr (.inl rfl) | exact .inr (.inr rfl))) (le_var _))) (loA va_nil le_nil)) le_cons)) le_blt)) (VE.b (lo (ve_int) le_c)) (nomark _)) le_bin) (lo (ve_and (lo (ve_g tk rfl G_is_among hr (by decide) rfl (loA (va_cons stbE (lo (ve_sub (Room.u hr) (VE.b (lo (ve_var (i := 0) (by decide) rfl (by first | exact .inl rfl | exact .inr (.inl rfl) | exact .inr (.inr rfl))) (le_var _))) (VE.b (lo (ve_int) le_c)) (fun _ _ => rfl)) le_bin) (loA (va_cons stbE (lo (ve_tup (loA (va_cons stbE (lo (ve_str) le_c) (loA (va_cons stbE (lo (ve_str) le_c) (loA va_nil le_nil)) le_cons)) le_cons)) le_tup) (loA va_nil le_nil)) le_cons)) le_cons)) le_call) (ve_one (lo (ve_g tk rfl G_is_among hr (by decide) rfl (loA (va_cons stbE (lo (ve_sub (Room.u hr) (VE.b (lo (ve_var (i := 0) (by decide) rfl (by first | exact .inl rfl | exact .inr (.inl rfl) | exact .inr (.inr rfl))) (le_var _))) (VE.b (lo (ve_int) le_c)) (fun _ _ => rfl)) le_bin) (loA (va_cons stbE (lo (ve_var (i := 1) (by decide) rfl (by first | exact .inl rfl | exact .inr (.inl rfl) | exact .inr (.inr rfl))) (le_var _)) (loA va_nil le_nil)) le_cons)) le_cons)) le_call))) le_and)) le_and)) ls_ret))) ls_seq
abbrev k_is_wish : Nat := 3
theorem sc_is_wish : FnScope N_is_wish ["thing", "names"] (defScope (top 26)) := ⟨rfl, rfl, rfl, by decide +kernel, rfl, by decide +kernel, by decide +kernel⟩
theorem d_is_wish {P : Program} {w : World} {K : PySem.W.Frag} {mg : Str → Option Value} {base : Heap} (G_is_integer : GFn P w K mg base "is_integer" k_is_integer ["thing"] (lift K 1 (FSp.of f_is_integer))) (G_is_list : GFn P w K mg base "is_list" k_is_list ["thing"] (lift K 1 (FSp.of f_is_list))) (G_is_moment : GFn P w K mg base "is_moment" k_is_moment ["thing", "names"] (lift K 2 (FSp.of f_is_moment))) (f_len : mg "len" = none) : Body P w K mg base N_is_wish "is_wish" (defScope (top 26)) 2 [] [] (defBody (top 26)) (upS (B_is_wish)) := by
  have nd := sc_is_wish.nd
  intro f cdv A outer s H E hr
  have tk := cx_tk (P := P) (w := w) (K := K) (mg := mg) (base := base) (N := N_is_wish) (qual := "is_wish") (scope := defScope (top 26)) (f := f) (cdv := cdv) (A := A) (outer := outer) (s := s) (H := H) (E := E)
  have po := cx_po (P := P) (w := w) (K := K) (mg := mg) (base := base) (N := N_is_wish) (qual := "is_wish") (scope := defScope (top 26)) (f := f) (cdv := cdv) (A := A) (outer := outer) (s := s) (H := H) (E := E)
  have uc := cx_uc (P := P) (w := w) (K := K) (mg := mg) (base := base) (N := N_is_wish) (qual := "is_wish") (scope := defScope (top 26)) (f := f) (cdv := cdv) (A := A) (outer := outer) (s := s) (H := H) (E := E)
  exact loSs (vss_cons (loS (vs_if (VW.t (loW (vw_or (loT (vt_not (loT (vt_val (lo (ve_g tk rfl G_is_list hr (by decide) rfl (loA (va_cons stbE (lo (ve_var (i := 0) (by decide) rfl (by first | exact .inl rfl | exact .inr (.inl rfl) | exact .inr (.inr rfl))) (le_var _)) (loA va_nil le_nil)) le_cons)) le_call)) le_val)) le_notT) (vw_or1 (loT (vt_cmp (od_ne (Room.u64 hr)) (VE.b (lo (ve_callB cd_len rfl f_len boot_len (loA (va_cons stbB (VE.b (lo (ve_var (i := 0) (by decide) rfl (by first | exact .inl rfl | exact .inr (.inl rfl) | exact .inr (.inr rfl))) (le_var _))) (loA va_nil le_nil)) le_cons)) le_blt)) (VE.b (lo (ve_int) le_c)) (nomark _)) le_binT))) le_orT)) (vss_one (loS (vs_ret (lo (ve_bl) le_c)) ls_ret)) (loSs vss_nil ls_nil)) ls_if) (vss_one (loS (vs_ret (lo (ve_and (lo (ve_g tk rfl G_is_moment hr (by decide) rfl (loA (va_cons stbE (lo (ve_sub (Room.u hr) (VE.b (lo (ve_var (i := 0) (by decide) rfl (by first | exact .inl rfl | exact .inr (.inl rfl) | exact .inr (.inr rfl))) (le_var _))) (VE.b (lo (ve_int) le_c)) (fun _ _ => rfl)) le_bin) (loA (va_cons stbE (lo (ve_var (i := 1) (by decide) rfl (by first | exact .inl rfl | exact .inr (.inl rfl) | exact .inr (.inr rfl))) (le_var _)) (loA va_nil le_nil)) le_cons)) le_cons)) le_call) (lo (ve_and (lo (ve_g tk rfl G_is_moment hr (by decide) rfl (loA (va_cons stbE (lo (ve_sub (Room.u hr) (VE.b (lo (ve_var (i := 0) (by decide) rfl (by first | exact .inl rfl | exact .inr (.inl rfl) | exact .inr (.inr rfl))) (le_var _))) (VE.b (lo (ve_int) le_c)) (fun _ _ => rfl)) le_bin) (loA (va_cons stbE (lo (ve_var (i := 1) (by decide) rfl (by first | exact .inl rfl | exact .inr (.inl rfl) | exact .inr (.inr rfl))) (le_var _)) (loA va_nil le_nil)) le_cons)) le_cons)) le_call) (ve_one (lo (ve_g tk rfl G_is_integer hr (by decide) rfl (loA (va_cons stbE (lo (ve_sub (Room.u hr) (VE.b (lo (ve_var (i := 0) (by decide) rfl (by first | exact .inl rfl | exact .inr (.inl rfl) | exact .inr (.inr rfl))) (le_var _))) (VE.b (lo (ve_int) le_c)) (fun _ _ => rfl)) le_bin) (loA va_nil le_nil)) le_cons)) le_call))) le_and)) le_and)) ls_ret))) ls_seq
abbrev k_frozen : Nat := 8
theorem sc_frozen : FnScope N_frozen ["thing"] (defScope (top 22)) := ⟨rfl, rfl, rfl, by decide +kernel, rfl, by decide +kernel, by decide +kernel⟩
theorem d_frozen {P : Program} {w : World} {K : PySem.W.Frag} {mg : Str → Option Value} {base : Heap} {kk : Nat} {sf : FFn} (hkk : 1 ≤ kk) (G_is_list : GFn P w K mg base "is_list" k_is_list ["thing"] (lift K 1 (FSp.of f_is_list))) (G_self : GFn P w K mg base "frozen" kk ["thing"] (lift K 1 (FSp.of sf))) (f_tuple : mg "tuple" = none) : Body P w K mg base N_frozen "frozen" (defScope (top 22)) kk [] [] (defBody (top 22)) (upS (B_frozen sf)) := by
  have nd := sc_frozen.nd
  intro f cdv A outer s H E hr
  have tk := cx_tk (P := P) (w := w) (K := K) (mg := mg) (base := base) (N := N_frozen) (qual := "frozen") (scope := defScope (top 22)) (f := f) (cdv := cdv) (A := A) (outer := outer) (s := s) (H := H) (E := E)
  have po := cx_po (P := P) (w := w) (K := K) (mg := mg) (base := base) (N := N_frozen) (qual := "frozen") (scope := defScope (top 22)) (f := f) (cdv := cdv) (A := A) (outer := outer) (s := s) (H := H) (E := E)
  have uc := cx_uc (P := P) (w := w) (K := K) (mg := mg) (base := base) (N := N_frozen) (qual := "frozen") (scope := defScope (top 22)) (f := f) (cdv := cdv) (A := A) (outer := outer) (s := s) (H := H) (E := E)
  exact vss_one (loS (vs_ret (lo (ve_ifExp (loT (vt_val (lo (ve_g tk rfl G_is_list hr (Nat.le_trans (by decide) hkk) rfl (loA (va_cons stbE (lo (ve_var (i := 0) (by decide) rfl (by first | exact .inl rfl | exact .inr (.inl rfl) | exact .inr (.inr rfl))) (le_var _)) (loA va_nil le_nil)) le_cons)) le_call)) le_val) (lo (ve_callTy cd_tuple rfl f_tuple boot_tuple (loA (va_cons stbB (VE.b (VF.ve (loF (xf_lc rfl rfl nd (VIs.vi (loIs (vi_seq (lo (ve_var (i := 0) (by decide) rfl (by first | exact .inl rfl | exact .inr (.inl rfl) | exact .inr (.inr rfl))) (le_var _))) le_iter)) (blkOk_by (own := [("one", 1)]) (N := N_frozen) (sc := defScope (top 22)) (by decide +kernel)) (by decide) (by decide) (fun c => loG (vg_name (i := 1) (by decide) nd rfl (by first | exact .inl rfl | exact .inr rfl)) (lg_nm)) (fun c => loTs vts_nil le_yes) (fun c => lo (ve_g tk_f rfl G_self hr (Nat.le_refl _) rfl (loA (va_cons stbE (lo (ve_var (i := 1) (by decide) rfl (by first | exact .inl rfl | exact .inr (.inl rfl) | exact .inr (.inr rfl))) (le_var _)) (loA va_nil le_nil)) le_cons)) le_call)) le_lc))) (loA va_nil le_nil)) le_cons)) le_blt) (lo (ve_var (i := 0) (by decide) rfl (by first | exact .inl rfl | exact .inr (.inl rfl) | exact .inr (.inr rfl))) (le_var _))) le_if)) ls_ret)
abbrev k_checked_wishes : Nat := 9
theorem sc_checked_wishes : FnScope N_checked_wishes ["wishes", "names"] (defScope (top 30)) := ⟨rfl, rfl, rfl, by decide +kernel, rfl, by decide +kernel, by decide +kernel⟩
theorem d_checked_wishes {P : Program} {w : World} {K : PySem.W.Frag} {mg : Str → Option Value} {base : Heap} (G_frozen : GFn P w K mg base "frozen" k_frozen ["thing"] (lift K 1 (FSp.of f_frozen))) (G_is_list : GFn P w K mg base "is_list" k_is_list ["thing"] (lift K 1 (FSp.of f_is_list))) (G_is_wish : GFn P w K mg base "is_wish" k_is_wish ["thing", "names"] (lift K 2 (FSp.of f_is_wish))) (X_BadWish : GEx P w K mg base "BadWish" 1 ["index"]) (f_enumerate : mg "enumerate" = none) (f_tuple : mg "tuple" = none) : Body P w K mg base N_checked_wishes "checked_wishes" (defScope (top 30)) 8 [] [] (defBody (top 30)) (upS (B_checked_wishes)) := by
  have nd := sc_checked_wishes.nd
  intro f cdv A outer s H E hr
  have tk := cx_tk (P := P) (w := w) (K := K) (mg := mg) (base := base) (N := N_checked_wishes) (qual := "checked_wishes") (scope := defScope (top 30)) (f := f) (cdv := cdv) (A := A) (outer := outer) (s := s) (H := H) (E := E)
  have po := cx_po (P := P) (w := w) (K := K) (mg := mg) (base := base) (N := N_checked_wishes) (qual := "checked_wishes") (scope := defScope (top 30)) (f := f) (cdv := cdv) (A := A) (outer := outer) (s := s) (H := H) (E := E)
  have uc := cx_uc (P := P) (w := w) (K := K) (mg := mg) (base := base) (N := N_checked_wishes) (qual := "checked_wishes") (scope := defScope (top 30)) (f := f) (cdv := cdv) (A := A) (outer := outer) (s := s) (H := H) (E := E)
  exact loSs (vss_cons (loS (vs_if (loT (vt_not (loT (vt_val (lo (ve_g tk rfl G_is_list hr (by decide) rfl (loA (va_cons stbE (lo (ve_var (i := 0) (by decide) rfl (by first | exact .inl rfl | exact .inr (.inl rfl) | exact .inr (.inr rfl))) (le_var _)) (loA va_nil le_nil)) le_cons)) le_call)) le_val)) le_notT) (vss_one (loS (vs_raise rfl tk X_BadWish hr (by decide) rfl (loA (va_cons stbE (lo (ve_int) le_c) (loA va_nil le_nil)) le_cons)) ls_raise)) (loSs vss_nil ls_nil)) ls_if) (loSs (vss_cons (loS (vs_for po rfl (loIs (vi_enum rfl f_enumerate (lo (ve_var (i := 0) (by decide) rfl (by first | exact .inl rfl | exact .inr (.inl rfl) | exact .inr (.inr rfl))) (le_var _))) le_enum) (loG (vg_tup rfl (vgs_cons (vg_name (i := 2) (by decide) nd rfl (by first | exact .inl rfl | exact .inr rfl)) (vgs_cons (vg_name (i := 3) (by decide) nd rfl (by first | exact .inl rfl | exact .inr rfl)) (vgs_nil))) (fun _ _ _ h => ((gsok_cons gok_nm (gsok_cons gok_nm (gsok_nil))) _ _ _ h).1)) (lg_tp (lgs_cons (lg_nm) (lgs_cons (lg_nm) (lgs_nil))))) ((show VSs _ _ _ _ _ _ (upS (b_checked_wishes_1)) from vss_one (loS (vs_if (loT (vt_not (loT (vt_val (lo (ve_g tk rfl G_is_wish hr (by decide) rfl (loA (va_cons stbE (lo (ve_var (i := 3) (by decide) rfl (by first | exact .inl rfl | exact .inr (.inl rfl) | exact .inr (.inr rfl))) (le_var _)) (loA (va_cons stbE (lo (ve_var (i := 1) (by decide) rfl (by first | exact .inl rfl | exact .inr (.inl rfl) | exact .inr (.inr rfl))) (le_var _)) (loA va_nil le_nil)) le_cons)) le_cons)) le_call)) le_val)) le_notT) (vss_one (loS (vs_raise rfl tk X_BadWish hr (by decide) rfl (loA (va_cons stbE (lo (ve_var (i := 2) (by decide) rfl (by first | exact .inl rfl | exact .inr (.inl rfl) | exact .inr (.inr rfl))) (le_var _)) (loA va_nil le_nil)) le_cons)) ls_raise)) (loSs vss_nil ls_nil)) ls_if)))) ls_for) (vss_one (loS (vs_ret (lo (ve_callTy cd_tuple rfl f_tuple boot_tuple (loA (va_cons stbB (VE.b (VF.ve (loF (xf_lc rfl rfl nd (VIs.vi (loIs (vi_seq (lo (ve_var (i := 0) (by decide) rfl (by first | exact .inl rfl | exact .inr (.inl rfl) | exact .inr (.inr rfl))) (le_var _))) le_iter)) (blkOk_by (own := [("wish", 3)]) (N := N_checked_wishes) (sc := defScope (top 30)) (by decide +kernel)) (by decide) (by decide) (fun c => loG (vg_name (i := 3) (by decide) nd rfl (by first | exact .inl rfl | exact .inr rfl)) (lg_nm)) (fun c => loTs vts_nil le_yes) (fun c => lo (ve_g tk_f rfl G_frozen hr (by decide) rfl (loA (va_cons stbE (lo (ve_var (i := 3) (by decide) rfl (by first | exact .inl rfl | exact .inr (.inl rfl) | exact .inr (.inr rfl))) (le_var _)) (loA va_nil le_nil)) le_cons)) le_call)) le_lc))) (loA va_nil le_nil)) le_cons)) le_blt)) ls_ret))) ls_seq)) ls_seq
abbrev k_is_station : Nat := 1
abbrev k_Meal___init__ : Nat := 10
theorem sc_Meal___init__ : FnScope N_Meal___init__ ["self", "dishes", "wishes", "stations"] (defScope (mth 31 0)) := ⟨rfl, rfl, rfl, by decide +kernel, rfl, by decide +kernel, by decide +kernel⟩
theorem d_Meal___init__ {P : Program} {w : World} {K : PySem.W.Frag} {mg : Str → Option Value} {base : Heap} (G_are_bounds : GFn P w K mg base "are_bounds" k_are_bounds ["thing"] (lift K 1 (FSp.of f_are_bounds))) (G_checked_wishes : GFn P w K mg base "checked_wishes" k_checked_wishes ["wishes", "names"] (lift K 2 (FSp.of f_checked_wishes))) (G_is_list : GFn P w K mg base "is_list" k_is_list ["thing"] (lift K 1 (FSp.of f_is_list))) (G_is_name : GFn P w K mg base "is_name" k_is_name ["thing"] (lift K 1 (FSp.of f_is_name))) (G_is_station : GFn P w K mg base "is_station" k_is_station ["thing", "names"] (lift K 2 (FSp.of f_is_station))) (G_rising : GFn P w K mg base "rising" k_rising ["things"] (lift K 1 (FSp.of f_rising))) (X_BadDish : GEx P w K mg base "BadDish" 1 ["name"]) (X_BadStation : GEx P w K mg base "BadStation" 1 ["index"]) (cl_Meal : Cls K (He.ga K "Meal")) (f_enumerate : mg "enumerate" = none) (f_list : mg "list" = none) (f_tuple : mg "tuple" = none) (na_Meal_bounds : NoAttr K (He.ga K "Meal") "bounds") (na_Meal_station_row : NoAttr K (He.ga K "Meal") "station_row") (na_Meal_wish_row : NoAttr K (He.ga K "Meal") "wish_row") : Body P w K mg base N_Meal___init__ "Meal.__init__" (defScope (mth 31 0)) 9 [0] [0] (defBody (mth 31 0)) (upS (B_Meal___init__)) := by
  have nd := sc_Meal___init__.nd
  intro f cdv A outer s H E hr
  have tk := cx_tk (P := P) (w := w) (K := K) (mg := mg) (base := base) (N := N_Meal___init__) (qual := "Meal.__init__") (scope := defScope (mth 31 0)) (f := f) (cdv := cdv) (A := A) (outer := outer) (s := s) (H := H) (E := E)
  have po := cx_po (P := P) (w := w) (K := K) (mg := mg) (base := base) (N := N_Meal___init__) (qual := "Meal.__init__") (scope := defScope (mth 31 0)) (f := f) (cdv := cdv) (A := A) (outer := outer) (s := s) (H := H) (E := E)
  have uc := cx_uc (P := P) (w := w) (K := K) (mg := mg) (base := base) (N := N_Meal___init__) (qual := "Meal.__init__") (scope := defScope (mth 31 0)) (f := f) (cdv := cdv) (A := A) (outer := outer) (s := s) (H := H) (E := E)
  exact loSs (vss_cons (loS (vs_forD uc po rfl (vd_items (vp_var (i := 1) (by decide) rfl (by first | exact .inl rfl | exact .inr (.inl rfl) | exact .inr (.inr rfl)))) (loG (vg_tup rfl (vgs_cons (vg_name (i := 4) (by decide) nd rfl (by first | exact .inl rfl | exact .inr rfl)) (vgs_cons (vg_name (i := 5) (by decide) nd rfl (by first | exact .inl rfl | exact .inr rfl)) (vgs_nil))) (fun _ _ _ h => ((gsok_cons gok_nm (gsok_cons gok_nm (gsok_nil))) _ _ _ h).1)) (lg_tp (lgs_cons (lg_nm) (lgs_cons (lg_nm) (lgs_nil))))) ((show VSs _ _ _ _ _ _ (upS (b_Meal___init___1)) from vss_one (loS (vs_if (VW.t (loW (vw_or (loT (vt_not (loT (vt_val (lo (ve_g tk rfl G_is_name hr (by decide) rfl (loA (va_cons stbE (lo (ve_var (i := 4) (by decide) rfl (by first | exact .inl rfl | exact .inr (.inl rfl) | exact .inr (.inr rfl))) (le_var _)) (loA va_nil le_nil)) le_cons)) le_call)) le_val)) le_notT) (vw_or1 (loT (vt_not (loT (vt_val (lo (ve_g tk rfl G_are_bounds hr (by decide) rfl (loA (va_cons stbE (lo (ve_var (i := 5) (by decide) rfl (by first | exact .inl rfl | exact .inr (.inl rfl) | exact .inr (.inr rfl))) (le_var _)) (loA va_nil le_nil)) le_cons)) le_call)) le_val)) le_notT))) le_orT)) (vss_one (loS (vs_raise rfl tk X_BadDish hr (by decide) rfl (loA (va_cons stbE (lo (ve_var (i := 4) (by decide) rfl (by first | exact .inl rfl | exact .inr (.inl rfl) | exact .inr (.inr rfl))) (le_var _)) (loA va_nil le_nil)) le_cons)) ls_raise)) (loSs vss_nil ls_nil)) ls_if)))) ls_forD) (loSs (vss_cons (loS (vs_fld (i := 0) (by decide) rfl (by first | exact .inl rfl | exact .inr (.inl rfl) | exact .inr (.inr rfl)) cl_Meal na_Meal_bounds (VF.ve (loF (xf_dc rfl rfl nd (VIs.vi (loIs (vi_seq (lo (ve_g tk rfl G_rising hr (by decide) rfl (loA (va_cons stbE (VF.ve (loF (vf_callTy (cf_list rfl) rfl f_list boot_list (loA (va_cons stbB (VE.b (lo (ve_var (i := 1) (by decide) rfl (by first | exact .inl rfl | exact .inr (.inl rfl) | exact .inr (.inr rfl))) (le_var _))) (loA va_nil le_nil)) le_cons)) le_blt)) (loA va_nil le_nil)) le_cons)) le_call)) le_iter)) (blkOk_by (own := [("name", 4)]) (N := N_Meal___init__) (sc := defScope (mth 31 0)) (by decide +kernel)) (by decide) (by decide) (fun c => loG (vg_name (i := 4) (by decide) nd rfl (by first | exact .inl rfl | exact .inr rfl)) (lg_nm)) (fun c => loTs vts_nil le_yes) (fun c => lo (ve_var (i := 4) (by decide) rfl (by first | exact .inl rfl | exact .inr (.inl rfl) | exact .inr (.inr rfl))) (le_var _)) (fun c => lo (ve_callTy cd_tuple rfl f_tuple boot_tuple (loA (va_cons stbB (VE.b (lo (ve_sub (Room.u hr) (VE.b (lo (ve_var (i := 1) (by decide) rfl (by first | exact .inl rfl | exact .inr (.inl rfl) | exact .inr (.inr rfl))) (le_var _))) (VE.b (lo (ve_var (i := 4) (by decide) rfl (by first | exact .inl rfl | exact .inr (.inl rfl) | exact .inr (.inr rfl))) (le_var _))) (fun _ _ => rfl)) le_bin)) (loA va_nil le_nil)) le_cons)) le_blt)) le_dc))) ls_fld) (loSs (vss_cons (loS (vs_fld (i := 0) (by decide) rfl (by first | exact .inl rfl | exact .inr (.inl rfl) | exact .inr (.inr rfl)) cl_Meal na_Meal_wish_row (lo (ve_g tk rfl G_checked_wishes hr (by decide) rfl (loA (va_cons stbE (lo (ve_var (i := 2) (by decide) rfl (by first | exact .inl rfl | exact .inr (.inl rfl) | exact .inr (.inr rfl))) (le_var _)) (loA (va_cons stbE (lo (ve_fld cl_Meal na_Meal_bounds (lo (vb_var (i := 0) (by decide) rfl (by first | exact .inl rfl | exact .inr (.inl rfl) | exact .inr (.inr rfl))) (le_var _))) le_fld) (loA va_nil le_nil)) le_cons)) le_cons)) le_call)) ls_fld) (loSs (vss_cons (loS (vs_if (loT (vt_not (loT (vt_val (lo (ve_g tk rfl G_is_list hr (by decide) rfl (loA (va_cons stbE (lo (ve_var (i := 3) (by decide) rfl (by first | exact .inl rfl | exact .inr (.inl rfl) | exact .inr (.inr rfl))) (le_var _)) (loA va_nil le_nil)) le_cons)) le_call)) le_val)) le_notT) (vss_one (loS (vs_raise rfl tk X_BadStation hr (by decide) rfl (loA (va_cons stbE (lo (ve_int) le_c) (loA va_nil le_nil)) le_cons)) ls_raise)) (loSs vss_nil ls_nil)) ls_if) (loSs (vss_cons (loS (vs_for po rfl (loIs (vi_enum rfl f_enumerate (lo (ve_var (i := 3) (by decide) rfl (by first | exact .inl rfl | exact .inr (.inl rfl) | exact .inr (.inr rfl))) (le_var _))) le_enum) (loG (vg_tup rfl (vgs_cons (vg_name (i := 6) (by decide) nd rfl (by first | exact .inl rfl | exact .inr rfl)) (vgs_cons (vg_name (i := 7) (by decide) nd rfl (by first | exact .inl rfl | exact .inr rfl)) (vgs_nil))) (fun _ _ _ h => ((gsok_cons gok_nm (gsok_cons gok_nm (gsok_nil))) _ _ _ h).1)) (lg_tp (lgs_cons (lg_nm) (lgs_cons (lg_nm) (lgs_nil))))) ((show VSs _ _ _ _ _ _ (upS (b_Meal___init___2)) from vss_one (loS (vs_if (loT (vt_not (loT (vt_val (lo (ve_g tk rfl G_is_station hr (by decide) rfl (loA (va_cons stbE (lo (ve_var (i := 7) (by decide) rfl (by first | exact .inl rfl | exact .inr (.inl rfl) | exact .inr (.inr rfl))) (le_var _)) (loA (va_cons stbE (lo (ve_fld cl_Meal na_Meal_bounds (lo (vb_var (i := 0) (by decide) rfl (by first | exact .inl rfl | exact .inr (.inl rfl) | exact .inr (.inr rfl))) (le_var _))) le_fld) (loA va_nil le_nil)) le_cons)) le_cons)) le_call)) le_val)) le_notT) (vss_one (loS (vs_raise rfl tk X_BadStation hr (by decide) rfl (loA (va_cons stbE (lo (ve_var (i := 6) (by decide) rfl (by first | exact .inl rfl | exact .inr (.inl rfl) | exact .inr (.inr rfl))) (le_var _)) (loA va_nil le_nil)) le_cons)) ls_raise)) (loSs vss_nil ls_nil)) ls_if)))) ls_for) (vss_one (loS (vs_fld (i := 0) (by decide) rfl (by first | exact .inl rfl | exact .inr (.inl rfl) | exact .inr (.inr rfl)) cl_Meal na_Meal_station_row (lo (ve_callTy cd_tuple rfl f_tuple boot_tuple (loA (va_cons stbB (VE.b (VF.ve (loF (xf_lc rfl rfl nd (VIs.vi (loIs (vi_seq (lo (ve_var (i := 3) (by decide) rfl (by first | exact .inl rfl | exact .inr (.inl rfl) | exact .inr (.inr rfl))) (le_var _))) le_iter)) (blkOk_by (own := [("station", 7)]) (N := N_Meal___init__) (sc := defScope (mth 31 0)) (by decide +kernel)) (by decide) (by decide) (fun c => loG (vg_name (i := 7) (by decide) nd rfl (by first | exact .inl rfl | exact .inr rfl)) (lg_nm)) (fun c => loTs vts_nil le_yes) (fun c => lo (ve_callTy cd_tuple rfl f_tuple boot_tuple (loA (va_cons stbB (VE.b (lo (ve_var (i := 7) (by decide) rfl (by first | exact .inl rfl | exact .inr (.inl rfl) | exact .inr (.inr rfl))) (le_var _))) (loA va_nil le_nil)) le_cons)) le_blt)) le_lc))) (loA va_nil le_nil)) le_cons)) le_blt)) ls_fld))) ls_seq)) ls_seq)) ls_seq)) ls_seq)) ls_seq
abbrev k__law_meal_of : Nat := 12
theorem sc__law_meal_of : FnScope N__law_meal_of ["_law_dishes_here", "_law_wishes_here", "_law_stations"] (defScope (top 101)) := ⟨rfl, rfl, rfl, by decide +kernel, rfl, by decide +kernel, by decide +kernel⟩
theorem d__law_meal_of {P : Program} {w : World} {K : PySem.W.Frag} {mg : Str → Option Value} {base : Heap} (K_Meal_3 : GMk P w K mg base "Meal" "Meal" k_Meal___init__ ["self", "dishes", "wishes", "stations"] [] (FSp.of f_Meal___init__)) : Body P w K mg base N__law_meal_of "_law_meal_of" (defScope (top 101)) 11 [] [] (defBody (top 101)) (upS (B__law_meal_of)) := by
  have nd := sc__law_meal_of.nd
  intro f cdv A outer s H E hr
  have tk := cx_tk (P := P) (w := w) (K := K) (mg := mg) (base := base) (N := N__law_meal_of) (qual := "_law_meal_of") (scope := defScope (top 101)) (f := f) (cdv := cdv) (A := A) (outer := outer) (s := s) (H := H) (E := E)
  have po := cx_po (P := P) (w := w) (K := K) (mg := mg) (base := base) (N := N__law_meal_of) (qual := "_law_meal_of") (scope := defScope (top 101)) (f := f) (cdv := cdv) (A := A) (outer := outer) (s := s) (H := H) (E := E)
  have uc := cx_uc (P := P) (w := w) (K := K) (mg := mg) (base := base) (N := N__law_meal_of) (qual := "_law_meal_of") (scope := defScope (top 101)) (f := f) (cdv := cdv) (A := A) (outer := outer) (s := s) (H := H) (E := E)
  exact vss_one (loS (vs_ret (VF.ve (loF (vf_mk tk rfl K_Meal_3 hr (by decide) rfl (loA (va_cons stbE (lo (ve_var (i := 0) (by decide) rfl (by first | exact .inl rfl | exact .inr (.inl rfl) | exact .inr (.inr rfl))) (le_var _)) (loA (va_cons stbE (lo (ve_var (i := 1) (by decide) rfl (by first | exact .inl rfl | exact .inr (.inl rfl) | exact .inr (.inr rfl))) (le_var _)) (loA (va_cons stbE (lo (ve_var (i := 2) (by decide) rfl (by first | exact .inl rfl | exact .inr (.inl rfl) | exact .inr (.inr rfl))) (le_var _)) (loA va_nil le_nil)) le_cons)) le_cons)) le_cons)) le_make))) ls_ret)
abbrev k__law_some : Nat := 2
theorem sc__law_some : FnScope N__law_some ["_law_state", "_law_things"] (defScope (top 94)) := ⟨rfl, rfl, rfl, by decide +kernel, rfl, by decide +kernel, by decide +kernel⟩
theorem d__law_some {P : Program} {w : World} {K : PySem.W.Frag} {mg : Str → Option Value} {base : Heap} (G__law_take : GFn P w K mg base "_law_take" k__law_take ["_law_state", "_law_many"] (lift K 2 sp__law_take)) : Body P w K mg base N__law_some "_law_some" (defScope (top 94)) 1 [] [] (defBody (top 94)) (B__law_some) := by
  have nd := sc__law_some.nd
  intro f cdv A outer s H E hr
  have tk := cx_tk (P := P) (w := w) (K := K) (mg := mg) (base := base) (N := N__law_some) (qual := "_law_some") (scope := defScope (top 94)) (f := f) (cdv := cdv) (A := A) (outer := outer) (s := s) (H := H) (E := E)
  have po := cx_po (P := P) (w := w) (K := K) (mg := mg) (base := base) (N := N__law_some) (qual := "_law_some") (scope := defScope (top 94)) (f := f) (cdv := cdv) (A := A) (outer := outer) (s := s) (H := H) (E := E)
  have uc := cx_uc (P := P) (w := w) (K := K) (mg := mg) (base := base) (N := N__law_some) (qual := "_law_some") (scope := defScope (top 94)) (f := f) (cdv := cdv) (A := A) (outer := outer) (s := s) (H := H) (E := E)
  exact vss_one (vs_ret (VF.ve (xf_lc rfl rfl nd (VIs.vi (loIs (vi_seq (lo (ve_var (i := 1) (by decide) rfl (by first | exact .inl rfl | exact .inr (.inl rfl) | exact .inr (.inr rfl))) (le_var _))) le_iter)) (blkOk_by (own := [("_law_thing", 2)]) (N := N__law_some) (sc := defScope (top 94)) (by decide +kernel)) (by decide) (by decide) (fun c => loG (vg_name (i := 2) (by decide) nd rfl (by first | exact .inl rfl | exact .inr rfl)) (lg_nm)) (fun c => vts_one (vt_cmp (od_eq (Room.u64 hr)) (VE.b (ve_g tk_f rfl G__law_take hr (by decide) rfl (loA (va_cons stbE (lo (ve_var (i := 0) (by decide) rfl (by first | exact .inl rfl | exact .inr (.inl rfl) | exact .inr (.inr rfl))) (le_var _)) (loA (va_cons stbE (lo (ve_int) le_c) (loA va_nil le_nil)) le_cons)) le_cons))) (VE.b (lo (ve_int) le_c)) (nomark _))) (fun c => lo (ve_var (i := 2) (by decide) rfl (by first | exact .inl rfl | exact .inr (.inl rfl) | exact .inr (.inr rfl))) (le_var _)))))
abbrev k__law_spoilt : Nat := 3
theorem sc__law_spoilt : FnScope N__law_spoilt ["_law_state", "_law_names_here"] (defScope (top 103)) := ⟨rfl, rfl, rfl, by decide +kernel, rfl, by decide +kernel, by decide +kernel⟩
theorem d__law_spoilt {P : Program} {w : World} {K : PySem.W.Frag} {mg : Str → Option Value} {base : Heap} (G__law_mix : GFn P w K mg base "_law_mix" k__law_mix ["_law_state", "_law_things"] (lift K 2 sp__law_mix)) (G__law_one : GFn P w K mg base "_law_one" k__law_one ["_law_state", "_law_things"] (lift K 2 sp__law_one)) (G__law_some : GFn P w K mg base "_law_some" k__law_some ["_law_state", "_law_things"] (lift K 2 sp__law_some)) (G__law_take : GFn P w K mg base "_law_take" k__law_take ["_law_state", "_law_many"] (lift K 2 sp__law_take)) (f_len : mg "len" = none) : Body P w K mg base N__law_spoilt "_law_spoilt" (defScope (top 103)) 2 [] [] (defBody (top 103)) (B__law_spoilt) := by
  have nd := sc__law_spoilt.nd
  intro f cdv A outer s H E hr
  have tk := cx_tk (P := P) (w := w) (K := K) (mg := mg) (base := base) (N := N__law_spoilt) (qual := "_law_spoilt") (scope := defScope (top 103)) (f := f) (cdv := cdv) (A := A) (outer := outer) (s := s) (H := H) (E := E)
  have po := cx_po (P := P) (w := w) (K := K) (mg := mg) (base := base) (N := N__law_spoilt) (qual := "_law_spoilt") (scope := defScope (top 103)) (f := f) (cdv := cdv) (A := A) (outer := outer) (s := s) (H := H) (E := E)
  have uc := cx_uc (P := P) (w := w) (K := K) (mg := mg) (base := base) (N := N__law_spoilt) (qual := "_law_spoilt") (scope := defScope (top 103)) (f := f) (cdv := cdv) (A := A) (outer := outer) (s := s) (H := H) (E := E)
  exact vss_cons (loS (vs_set (i := 2) (by decide) nd rfl (by first | exact .inl rfl | exact .inr rfl) (VF.ve (loF (vf_lst (loA (va_cons stbE (lo (ve_non) le_c) (loA (va_cons stbE (lo (ve_int) le_c) (loA (va_cons stbE (lo (ve_str) le_c) (loA (va_cons stbE (lo (ve_str) le_c) (loA (va_cons stbE (lo (ve_str) le_c) (loA (va_cons stbE (lo (ve_str) le_c) (loA (va_cons stbE (lo (ve_tup (loA (va_cons stbE (lo (ve_str) le_c) (loA va_nil le_nil)) le_cons)) le_tup) (loA (va_cons stbE (lo (ve_bl) le_c) (loA (va_cons stbE (VF.ve (loF (vf_lst (loA (va_cons stbE (lo (ve_str) le_c) (loA va_nil le_nil)) le_cons)) le_lst)) (loA (va_cons stbE (VF.ve (loF vf_dic0 le_c)) (loA va_nil le_nil)) le_cons)) le_cons)) le_cons)) le_cons)) le_cons)) le_cons)) le_cons)) le_cons)) le_cons)) le_cons)) le_lst))) ls_set) (vss_cons (vs_set (i := 3) (by decide) nd rfl (by first | exact .inl rfl | exact .inr rfl) (ve_g tk rfl G__law_mix hr (by decide) rfl (va_cons stbE (lo (ve_var (i := 0) (by decide) rfl (by first | exact .inl rfl | exact .inr (.inl rfl) | exact .inr (.inr rfl))) (le_var _)) (va_cons stbE (ve_g tk rfl G__law_some hr (by decide) rfl (loA (va_cons stbE (lo (ve_var (i := 0) (by decide) rfl (by first | exact .inl rfl | exact .inr (.inl rfl) | exact .inr (.inr rfl))) (le_var _)) (loA (va_cons stbE (lo (ve_var (i := 1) (by decide) rfl (by first | exact .inl rfl | exact .inr (.inl rfl) | exact .inr (.inr rfl))) (le_var _)) (loA va_nil le_nil)) le_cons)) le_cons)) (loA va_nil le_nil))))) (vss_cons (vs_set (i := 4) (by decide) nd rfl (by first | exact .inl rfl | exact .inr rfl) (ve_g tk rfl G__law_one hr (by decide) rfl (loA (va_cons stbE (lo (ve_var (i := 0) (by decide) rfl (by first | exact .inl rfl | exact .inr (.inl rfl) | exact .inr (.inr rfl))) (le_var _)) (loA (va_cons stbE (lo (ve_var (i := 2) (by decide) rfl (by first | exact .inl rfl | exact .inr (.inl rfl) | exact .inr (.inr rfl))) (le_var _)) (loA va_nil le_nil)) le_cons)) le_cons))) (vss_cons (vs_set (i := 5) (by decide) nd rfl (by first | exact .inl rfl | exact .inr rfl) (ve_g tk rfl G__law_take hr (by decide) rfl (loA (va_cons stbE (lo (ve_var (i := 0) (by decide) rfl (by first | exact .inl rfl | exact .inr (.inl rfl) | exact .inr (.inr rfl))) (le_var _)) (loA (va_cons stbE (lo (ve_bin od_add (VE.b (lo (ve_callB cd_len rfl f_len boot_len (loA (va_cons stbB (VE.b (lo (ve_var (i := 3) (by decide) rfl (by first | exact .inl rfl | exact .inr (.inl rfl) | exact .inr (.inr rfl))) (le_var _))) (loA va_nil le_nil)) le_cons)) le_blt)) (VE.b (lo (ve_int) le_c))) le_bin) (loA va_nil le_nil)) le_cons)) le_cons))) (vss_cons (vs_set (i := 6) (by decide) nd rfl (by first | exact .inl rfl | exact .inr rfl) (ve_ifExp (vt_cmp (od_eq (Room.u64 hr)) (VE.b (ve_g tk rfl G__law_take hr (by decide) rfl (loA (va_cons stbE (lo (ve_var (i := 0) (by decide) rfl (by first | exact .inl rfl | exact .inr (.inl rfl) | exact .inr (.inr rfl))) (le_var _)) (loA (va_cons stbE (lo (ve_int) le_c) (loA va_nil le_nil)) le_cons)) le_cons))) (VE.b (lo (ve_int) le_c)) (nomark _)) (VF.ve (vf_lst (va_cons stbE (ve_g tk rfl G__law_one hr (by decide) rfl (loA (va_cons stbE (lo (ve_var (i := 0) (by decide) rfl (by first | exact .inl rfl | exact .inr (.inl rfl) | exact .inr (.inr rfl))) (le_var _)) (loA (va_cons stbE (lo (ve_var (i := 2) (by decide) rfl (by first | exact .inl rfl | exact .inr (.inl rfl) | exact .inr (.inr rfl))) (le_var _)) (loA va_nil le_nil)) le_cons)) le_cons)) (loA va_nil le_nil)))) (VF.ve (loF (vf_lst (loA va_nil le_nil)) le_lst)))) (vss_one (loS (vs_ret (lo (ve_tup (loA (va_cons stbE (lo (ve_bin od_add (VE.b (lo (ve_bin od_add (VE.b (lo (ve_bin od_add (VE.b (lo (ve_slice (VE.b (lo (ve_var (i := 3) (by decide) rfl (by first | exact .inl rfl | exact .inr (.inl rfl) | exact .inr (.inr rfl))) (le_var _))) (loO vo_none le_none) (loO (vo_some (VE.b (lo (ve_var (i := 5) (by decide) rfl (by first | exact .inl rfl | exact .inr (.inl rfl) | exact .inr (.inr rfl))) (le_var _)))) le_some)) le_sl)) (VE.b (VF.ve (loF (vf_lst (loA (va_cons stbE (lo (ve_var (i := 4) (by decide) rfl (by first | exact .inl rfl | exact .inr (.inl rfl) | exact .inr (.inr rfl))) (le_var _)) (loA va_nil le_nil)) le_cons)) le_lst)))) le_bin)) (VE.b (lo (ve_slice (VE.b (lo (ve_var (i := 3) (by decide) rfl (by first | exact .inl rfl | exact .inr (.inl rfl) | exact .inr (.inr rfl))) (le_var _))) (loO (vo_some (VE.b (lo (ve_var (i := 5) (by decide) rfl (by first | exact .inl rfl | exact .inr (.inl rfl) | exact .inr (.inr rfl))) (le_var _)))) le_some) (loO vo_none le_none)) le_sl))) le_bin)) (VE.b (lo (ve_var (i := 6) (by decide) rfl (by first | exact .inl rfl | exact .inr (.inl rfl) | exact .inr (.inr rfl))) (le_var _)))) le_bin) (loA (va_cons stbE (lo (ve_var (i := 4) (by decide) rfl (by first | exact .inl rfl | exact .inr (.inl rfl) | exact .inr (.inr rfl))) (le_var _)) (loA va_nil le_nil)) le_cons)) le_cons)) le_tup)) ls_ret))))))
abbrev k_checked_looks : Nat := 3
theorem sc_checked_looks : FnScope N_checked_looks ["meal", "looks"] (defScope (top 64)) := ⟨rfl, rfl, rfl, by decide +kernel, rfl, by decide +kernel, by decide +kernel⟩
theorem d_checked_looks {P : Program} {w : World} {K : PySem.W.Frag} {mg : Str → Option Value} {base : Heap} (G_is_among : GFn P w K mg base "is_among" k_is_among ["thing", "names"] (lift K 2 (FSp.of f_is_among))) (X_NoDish : GEx P w K mg base "NoDish" 1 ["name"]) (cl_Meal : Cls K (He.ga K "Meal")) (f_list : mg "list" = none) (na_Meal_bounds : NoAttr K (He.ga K "Meal") "bounds") : Body P w K mg base N_checked_looks "checked_looks" (defScope (top 64)) 2 [] [] (defBody (top 64)) (upS (B_checked_looks)) := by
  have nd := sc_checked_looks.nd
  intro f cdv A outer s H E hr
  have tk := cx_tk (P := P) (w := w) (K := K) (mg := mg) (base := base) (N := N_checked_looks) (qual := "checked_looks") (scope := defScope (top 64)) (f := f) (cdv := cdv) (A := A) (outer := outer) (s := s) (H := H) (E := E)
  have po := cx_po (P := P) (w := w) (K := K) (mg := mg) (base := base) (N := N_checked_looks) (qual := "checked_looks") (scope := defScope (top 64)) (f := f) (cdv := cdv) (A := A) (outer := outer) (s := s) (H := H) (E := E)
  have uc := cx_uc (P := P) (w := w) (K := K) (mg := mg) (base := base) (N := N_checked_looks) (qual := "checked_looks") (scope := defScope (top 64)) (f := f) (cdv := cdv) (A := A) (outer := outer) (s := s) (H := H) (E := E)
  exact loSs (vss_cons (loS (vs_if (loT (vt_cmp od_is (VE.b (lo (ve_var (i := 1) (by decide) rfl (by first | exact .inl rfl | exact .inr (.inl rfl) | exact .inr (.inr rfl))) (le_var _))) (VE.b (lo (ve_non) le_c)) (nomark _)) le_binT) (vss_one (loS (vs_ret (VF.ve (loF (vf_callTy (cf_list rfl) rfl f_list boot_list (loA (va_cons stbB (VE.b (lo (ve_fld cl_Meal na_Meal_bounds (VE.b (lo (ve_var (i := 0) (by decide) rfl (by first | exact .inl rfl | exact .inr (.inl rfl) | exact .inr (.inr rfl))) (le_var _)))) le_fld)) (loA va_nil le_nil)) le_cons)) le_blt))) ls_ret)) (loSs vss_nil ls_nil)) ls_if) (loSs (vss_cons (loS (vs_for po rfl (loIs (vi_seq (lo (ve_var (i := 1) (by decide) rfl (by first | exact .inl rfl | exact .inr (.inl rfl) | exact .inr (.inr rfl))) (le_var _))) le_iter) (loG (vg_name (i := 2) (by decide) nd rfl (by first | exact .inl rfl | exact .inr rfl)) (lg_nm)) ((show VSs _ _ _ _ _ _ (upS (b_checked_looks_1)) from vss_one (loS (vs_if (loT (vt_not (loT (vt_val (lo (ve_g tk rfl G_is_among hr (by decide) rfl (loA (va_cons stbE (lo (ve_var (i := 2) (by decide) rfl (by first | exact .inl rfl | exact .inr (.inl rfl) | exact .inr (.inr rfl))) (le_var _)) (loA (va_cons stbE (lo (ve_fld cl_Meal na_Meal_bounds (VE.b (lo (ve_var (i := 0) (by decide) rfl (by first | exact .inl rfl | exact .inr (.inl rfl) | exact .inr (.inr rfl))) (le_var _)))) le_fld) (loA va_nil le_nil)) le_cons)) le_cons)) le_call)) le_val)) le_notT) (vss_one (loS (vs_raise rfl tk X_NoDish hr (by decide) rfl (loA (va_cons stbE (lo (ve_var (i := 2) (by decide) rfl (by first | exact .inl rfl | exact .inr (.inl rfl) | exact .inr (.inr rfl))) (le_var _)) (loA va_nil le_nil)) le_cons)) ls_raise)) (loSs vss_nil ls_nil)) ls_if)))) ls_for) (vss_one (loS (vs_ret (VF.ve (loF (vf_callTy (cf_list rfl) rfl f_list boot_list (loA (va_cons stbB (VE.b (lo (ve_var (i := 1) (by decide) rfl (by first | exact .inl rfl | exact .inr (.inl rfl) | exact .inr (.inr rfl))) (le_var _))) (loA va_nil le_nil)) le_cons)) le_blt))) ls_ret))) ls_seq)) ls_seq
abbrev k_sought : Nat := 7
abbrev k_book_for : Nat := 8
theorem sc_book_for : FnScope N_book_for ["meal", "looks"] (defScope (top 71)) := ⟨rfl, rfl, rfl, by decide +kernel, rfl, by decide +kernel, by decide +kernel⟩
theorem d_book_for {P : Program} {w : World} {K : PySem.W.Frag} {mg : Str → Option Value} {base : Heap} (G_checked_looks : GFn P w K mg base "checked_looks" k_checked_looks ["meal", "looks"] (lift K 2 (FSp.of f_checked_looks))) (G_sought : GFn P w K mg base "sought" k_sought ["meal", "looks", "told", "orders"] (lift K 4 (FSp.of f_sought))) : Body P w K mg base N_book_for "book_for" (defScope (top 71)) 7 [] [] (defBody (top 71)) (upS (B_book_for)) := by
  have nd := sc_book_for.nd
  intro f cdv A outer s H E hr
  have tk := cx_tk (P := P) (w := w) (K := K) (mg := mg) (base := base) (N := N_book_for) (qual := "book_for") (scope := defScope (top 71)) (f := f) (cdv := cdv) (A := A) (outer := outer) (s := s) (H := H) (E := E)
  have po := cx_po (P := P) (w := w) (K := K) (mg := mg) (base := base) (N := N_book_for) (qual := "book_for") (scope := defScope (top 71)) (f := f) (cdv := cdv) (A := A) (outer := outer) (s := s) (H := H) (E := E)
  have uc := cx_uc (P := P) (w := w) (K := K) (mg := mg) (base := base) (N := N_book_for) (qual := "book_for") (scope := defScope (top 71)) (f := f) (cdv := cdv) (A := A) (outer := outer) (s := s) (H := H) (E := E)
  exact vss_one (loS (vs_ret (lo (ve_sub (Room.u hr) (VE.b (lo (ve_g tk rfl G_sought hr (by decide) rfl (loA (va_cons stbE (lo (ve_var (i := 0) (by decide) rfl (by first | exact .inl rfl | exact .inr (.inl rfl) | exact .inr (.inr rfl))) (le_var _)) (loA (va_cons stbE (lo (ve_g tk rfl G_checked_looks hr (by decide) rfl (loA (va_cons stbE (lo (ve_var (i := 0) (by decide) rfl (by first | exact .inl rfl | exact .inr (.inl rfl) | exact .inr (.inr rfl))) (le_var _)) (loA (va_cons stbE (lo (ve_var (i := 1) (by decide) rfl (by first | exact .inl rfl | exact .inr (.inl rfl) | exact .inr (.inr rfl))) (le_var _)) (loA va_nil le_nil)) le_cons)) le_cons)) le_call) (loA (va_cons stbE (VF.ve (loF vf_dic0 le_c)) (loA (va_cons stbE (VF.ve (loF (vf_lst (loA va_nil le_nil)) le_lst)) (loA va_nil le_nil)) le_cons)) le_cons)) le_cons)) le_cons)) le_call)) (VE.b (lo (ve_int) le_c)) (fun _ _ => rfl)) le_bin)) ls_ret)
abbrev k_reason : Nat := 8
theorem sc_reason : FnScope N_reason ["meal", "looks"] (defScope (top 72)) := ⟨rfl, rfl, rfl, by decide +kernel, rfl, by decide +kernel, by decide +kernel⟩
theorem d_reason {P : Program} {w : World} {K : PySem.W.Frag} {mg : Str → Option Value} {base : Heap} (G_checked_looks : GFn P w K mg base "checked_looks" k_checked_looks ["meal", "looks"] (lift K 2 (FSp.of f_checked_looks))) (G_sought : GFn P w K mg base "sought" k_sought ["meal", "looks", "told", "orders"] (lift K 4 (FSp.of f_sought))) : Body P w K mg base N_reason "reason" (defScope (top 72)) 7 [] [] (defBody (top 72)) (upS (B_reason)) := by
  have nd := sc_reason.nd
  intro f cdv A outer s H E hr
  have tk := cx_tk (P := P) (w := w) (K := K) (mg := mg) (base := base) (N := N_reason) (qual := "reason") (scope := defScope (top 72)) (f := f) (cdv := cdv) (A := A) (outer := outer) (s := s) (H := H) (E := E)
  have po := cx_po (P := P) (w := w) (K := K) (mg := mg) (base := base) (N := N_reason) (qual := "reason") (scope := defScope (top 72)) (f := f) (cdv := cdv) (A := A) (outer := outer) (s := s) (H := H) (E := E)
  have uc := cx_uc (P := P) (w := w) (K := K) (mg := mg) (base := base) (N := N_reason) (qual := "reason") (scope := defScope (top 72)) (f := f) (cdv := cdv) (A := A) (outer := outer) (s := s) (H := H) (E := E)
  exact vss_one (loS (vs_ret (lo (ve_sub (Room.u hr) (VE.b (lo (ve_g tk rfl G_sought hr (by decide) rfl (loA (va_cons stbE (lo (ve_var (i := 0) (by decide) rfl (by first | exact .inl rfl | exact .inr (.inl rfl) | exact .inr (.inr rfl))) (le_var _)) (loA (va_cons stbE (lo (ve_g tk rfl G_checked_looks hr (by decide) rfl (loA (va_cons stbE (lo (ve_var (i := 0) (by decide) rfl (by first | exact .inl rfl | exact .inr (.inl rfl) | exact .inr (.inr rfl))) (le_var _)) (loA (va_cons stbE (lo (ve_var (i := 1) (by decide) rfl (by first | exact .inl rfl | exact .inr (.inl rfl) | exact .inr (.inr rfl))) (le_var _)) (loA va_nil le_nil)) le_cons)) le_cons)) le_call) (loA (va_cons stbE (VF.ve (loF vf_dic0 le_c)) (loA (va_cons stbE (VF.ve (loF (vf_lst (loA va_nil le_nil)) le_lst)) (loA va_nil le_nil)) le_cons)) le_cons)) le_cons)) le_cons)) le_call)) (VE.b (lo (ve_int) le_c)) (fun _ _ => rfl)) le_bin)) ls_ret)
abbrev k_is_reason_under : Nat := 1
abbrev k_is_reason : Nat := 4
theorem sc_is_reason : FnScope N_is_reason ["meal", "looks", "thing"] (defScope (top 73)) := ⟨rfl, rfl, rfl, by decide +kernel, rfl, by decide +kernel, by decide +kernel⟩
theorem d_is_reason {P : Program} {w : World} {K : PySem.W.Frag} {mg : Str → Option Value} {base : Heap} (G_checked_looks : GFn P w K mg base "checked_looks" k_checked_looks ["meal", "looks"] (lift K 2 (FSp.of f_checked_looks))) (G_is_reason_under : GFn P w K mg base "is_reason_under" k_is_reason_under ["meal", "looks", "told", "orders", "thing"] (lift K 5 (FSp.of f_is_reason_under))) : Body P w K mg base N_is_reason "is_reason" (defScope (top 73)) 3 [] [] (defBody (top 73)) (upS (B_is_reason)) := by
  have nd := sc_is_reason.nd
  intro f cdv A outer s H E hr
  have tk := cx_tk (P := P) (w := w) (K := K) (mg := mg) (base := base) (N := N_is_reason) (qual := "is_reason") (scope := defScope (top 73)) (f := f) (cdv := cdv) (A := A) (outer := outer) (s := s) (H := H) (E := E)
  have po := cx_po (P := P) (w := w) (K := K) (mg := mg) (base := base) (N := N_is_reason) (qual := "is_reason") (scope := defScope (top 73)) (f := f) (cdv := cdv) (A := A) (outer := outer) (s := s) (H := H) (E := E)
  have uc := cx_uc (P := P) (w := w) (K := K) (mg := mg) (base := base) (N := N_is_reason) (qual := "is_reason") (scope := defScope (top 73)) (f := f) (cdv := cdv) (A := A) (outer := outer) (s := s) (H := H) (E := E)
  exact vss_one (loS (vs_ret (lo (ve_g tk rfl G_is_reason_under hr (by decide) rfl (loA (va_cons stbE (lo (ve_var (i := 0) (by decide) rfl (by first | exact .inl rfl | exact .inr (.inl rfl) | exact .inr (.inr rfl))) (le_var _)) (loA (va_cons stbE (lo (ve_g tk rfl G_checked_looks hr (by decide) rfl (loA (va_cons stbE (lo (ve_var (i := 0) (by decide) rfl (by first | exact .inl rfl | exact .inr (.inl rfl) | exact .inr (.inr rfl))) (le_var _)) (loA (va_cons stbE (lo (ve_var (i := 1) (by decide) rfl (by first | exact .inl rfl | exact .inr (.inl rfl) | exact .inr (.inr rfl))) (le_var _)) (loA va_nil le_nil)) le_cons)) le_cons)) le_call) (loA (va_cons stbE (VF.ve (loF vf_dic0 le_c)) (loA (va_cons stbE (VF.ve (loF (vf_lst (loA va_nil le_nil)) le_lst)) (loA (va_cons stbE (lo (ve_var (i := 2) (by decide) rfl (by first | exact .inl rfl | exact .inr (.inl rfl) | exact .inr (.inr rfl))) (le_var _)) (loA va_nil le_nil)) le_cons)) le_cons)) le_cons)) le_cons)) le_cons)) le_call)) ls_ret)
abbrev k_enough : Nat := 9
theorem sc_enough : FnScope N_enough ["meal", "looks"] (defScope (top 78)) := ⟨rfl, rfl, rfl, by decide +kernel, rfl, by decide +kernel, by decide +kernel⟩
theorem d_enough {P : Program} {w : World} {K : PySem.W.Frag} {mg : Str → Option Value} {base : Heap} (G_book_for : GFn P w K mg base "book_for" k_book_for ["meal", "looks"] (lift K 2 (FSp.of f_book_for))) : Body P w K mg base N_enough "enough" (defScope (top 78)) 8 [] [] (defBody (top 78)) (upS (B_enough)) := by
  have nd := sc_enough.nd
  intro f cdv A outer s H E hr
  have tk := cx_tk (P := P) (w := w) (K := K) (mg := mg) (base := base) (N := N_enough) (qual := "enough") (scope := defScope (top 78)) (f := f) (cdv := cdv) (A := A) (outer := outer) (s := s) (H := H) (E := E)
  have po := cx_po (P := P) (w := w) (K := K) (mg := mg) (base := base) (N := N_enough) (qual := "enough") (scope := defScope (top 78)) (f := f) (cdv := cdv) (A := A) (outer := outer) (s := s) (H := H) (E := E)
  have uc := cx_uc (P := P) (w := w) (K := K) (mg := mg) (base := base) (N := N_enough) (qual := "enough") (scope := defScope (top 78)) (f := f) (cdv := cdv) (A := A) (outer := outer) (s := s) (H := H) (E := E)
  exact vss_one (loS (vs_ret (lo (ve_cmp od_notN (VE.b (lo (ve_g tk rfl G_book_for hr (by decide) rfl (loA (va_cons stbE (lo (ve_var (i := 0) (by decide) rfl (by first | exact .inl rfl | exact .inr (.inl rfl) | exact .inr (.inr rfl))) (le_var _)) (loA (va_cons stbE (lo (ve_var (i := 1) (by decide) rfl (by first | exact .inl rfl | exact .inr (.inl rfl) | exact .inr (.inr rfl))) (le_var _)) (loA va_nil le_nil)) le_cons)) le_cons)) le_call)) (VE.b (lo (ve_non) le_c)) (nomark _)) le_bin)) ls_ret)
abbrev k_in_place : Nat := 10
theorem sc_in_place : FnScope N_in_place ["meal", "looks", "look", "other"] (defScope (top 79)) := ⟨rfl, rfl, rfl, by decide +kernel, rfl, by decide +kernel, by decide +kernel⟩
theorem d_in_place {P : Program} {w : World} {K : PySem.W.Frag} {mg : Str → Option Value} {base : Heap} (G_checked_looks : GFn P w K mg base "checked_looks" k_checked_looks ["meal", "looks"] (lift K 2 (FSp.of f_checked_looks))) (G_enough : GFn P w K mg base "enough" k_enough ["meal", "looks"] (lift K 2 (FSp.of f_enough))) (G_is_among : GFn P w K mg base "is_among" k_is_among ["thing", "names"] (lift K 2 (FSp.of f_is_among))) (X_NoDish : GEx P w K mg base "NoDish" 1 ["name"]) (cl_Meal : Cls K (He.ga K "Meal")) (na_Meal_bounds : NoAttr K (He.ga K "Meal") "bounds") : Body P w K mg base N_in_place "in_place" (defScope (top 79)) 9 [] [] (defBody (top 79)) (upS (B_in_place)) := by
  have nd := sc_in_place.nd
  intro f cdv A outer s H E hr
  have tk := cx_tk (P := P) (w := w) (K := K) (mg := mg) (base := base) (N := N_in_place) (qual := "in_place") (scope := defScope (top 79)) (f := f) (cdv := cdv) (A := A) (outer := outer) (s := s) (H := H) (E := E)
  have po := cx_po (P := P) (w := w) (K := K) (mg := mg) (base := base) (N := N_in_place) (qual := "in_place") (scope := defScope (top 79)) (f := f) (cdv := cdv) (A := A) (outer := outer) (s := s) (H := H) (E := E)
  have uc := cx_uc (P := P) (w := w) (K := K) (mg := mg) (base := base) (N := N_in_place) (qual := "in_place") (scope := defScope (top 79)) (f := f) (cdv := cdv) (A := A) (outer := outer) (s := s) (H := H) (E := E)
  exact loSs (vss_cons (loS (vs_set (i := 4) (by decide) nd rfl (by first | exact .inl rfl | exact .inr rfl) (lo (ve_g tk rfl G_checked_looks hr (by decide) rfl (loA (va_cons stbE (lo (ve_var (i := 0) (by decide) rfl (by first | exact .inl rfl | exact .inr (.inl rfl) | exact .inr (.inr rfl))) (le_var _)) (loA (va_cons stbE (lo (ve_var (i := 1) (by decide) rfl (by first | exact .inl rfl | exact .inr (.inl rfl) | exact .inr (.inr rfl))) (le_var _)) (loA va_nil le_nil)) le_cons)) le_cons)) le_call)) ls_set) (loSs (vss_cons (loS (vs_if (loT (vt_not (loT (vt_val (lo (ve_g tk rfl G_is_among hr (by decide) rfl (loA (va_cons stbE (lo (ve_var (i := 2) (by decide) rfl (by first | exact .inl rfl | exact .inr (.inl rfl) | exact .inr (.inr rfl))) (le_var _)) (loA (va_cons stbE (lo (ve_var (i := 4) (by decide) rfl (by first | exact .inl rfl | exact .inr (.inl rfl) | exact .inr (.inr rfl))) (le_var _)) (loA va_nil le_nil)) le_cons)) le_cons)) le_call)) le_val)) le_notT) (vss_one (loS (vs_raise rfl tk X_NoDish hr (by decide) rfl (loA (va_cons stbE (lo (ve_var (i := 2) (by decide) rfl (by first | exact .inl rfl | exact .inr (.inl rfl) | exact .inr (.inr rfl))) (le_var _)) (loA va_nil le_nil)) le_cons)) ls_raise)) (loSs vss_nil ls_nil)) ls_if) (loSs (vss_cons (loS (vs_if (loT (vt_not (loT (vt_val (lo (ve_g tk rfl G_is_among hr (by decide) rfl (loA (va_cons stbE (lo (ve_var (i := 3) (by decide) rfl (by first | exact .inl rfl | exact .inr (.inl rfl) | exact .inr (.inr rfl))) (le_var _)) (loA (va_cons stbE (lo (ve_fld cl_Meal na_Meal_bounds (VE.b (lo (ve_var (i := 0) (by decide) rfl (by first | exact .inl rfl | exact .inr (.inl rfl) | exact .inr (.inr rfl))) (le_var _)))) le_fld) (loA va_nil le_nil)) le_cons)) le_cons)) le_call)) le_val)) le_notT) (vss_one (loS (vs_raise rfl tk X_NoDish hr (by decide) rfl (loA (va_cons stbE (lo (ve_var (i := 3) (by decide) rfl (by first | exact .inl rfl | exact .inr (.inl rfl) | exact .inr (.inr rfl))) (le_var _)) (loA va_nil le_nil)) le_cons)) ls_raise)) (loSs vss_nil ls_nil)) ls_if) (vss_one (loS (vs_ret (lo (ve_g tk rfl G_enough hr (by decide) rfl (loA (va_cons stbE (lo (ve_var (i := 0) (by decide) rfl (by first | exact .inl rfl | exact .inr (.inl rfl) | exact .inr (.inr rfl))) (le_var _)) (loA (va_cons stbE (lo (ve_bin od_add (VE.b (VF.ve (loF (xf_lc rfl rfl nd (VIs.vi (loIs (vi_seq (lo (ve_var (i := 4) (by decide) rfl (by first | exact .inl rfl | exact .inr (.inl rfl) | exact .inr (.inr rfl))) (le_var _))) le_iter)) (blkOk_by (own := [("name", 5)]) (N := N_in_place) (sc := defScope (top 79)) (by decide +kernel)) (by decide) (by decide) (fun c => loG (vg_name (i := 5) (by decide) nd rfl (by first | exact .inl rfl | exact .inr rfl)) (lg_nm)) (fun c => vts_one (loT (vt_cmp (od_ne (Room.u64 hr)) (VE.b (lo (ve_var (i := 5) (by decide) rfl (by first | exact .inl rfl | exact .inr (.inl rfl) | exact .inr (.inr rfl))) (le_var _))) (VE.b (lo (ve_var (i := 2) (by decide) rfl (by first | exact .inl rfl | exact .inr (.inl rfl) | exact .inr (.inr rfl))) (le_var _))) (nomark _)) le_binT)) (fun c => lo (ve_var (i := 5) (by decide) rfl (by first | exact .inl rfl | exact .inr (.inl rfl) | exact .inr (.inr rfl))) (le_var _))) le_lc))) (VE.b (VF.ve (loF (vf_lst (loA (va_cons stbE (lo (ve_var (i := 3) (by decide) rfl (by first | exact .inl rfl | exact .inr (.inl rfl) | exact .inr (.inr rfl))) (le_var _)) (loA va_nil le_nil)) le_cons)) le_lst)))) le_bin) (loA va_nil le_nil)) le_cons)) le_cons)) le_call)) ls_ret))) ls_seq)) ls_seq)) ls_seq
abbrev k__law_by_looks : Nat := 13
theorem sc__law_by_looks : FnScope N__law_by_looks ["_law_meal_here", "_law_bad"] (defScope (top 104)) := ⟨rfl, rfl, rfl, by decide +kernel, rfl, by decide +kernel, by decide +kernel⟩
theorem d__law_by_looks {P : Program} {w : World} {K : PySem.W.Frag} {mg : Str → Option Value} {base : Heap} {c0 P0 : Addr} (TB0 : LamX.TabB base mg c0 P0) (hT0 : (P0, ((envOfC "_law_by_looks" (defScope (top 104)) 0 0 .none).qual ++ "<lambda>")) ∈ TabC.T) (hU0 : ∀ p ∈ TabC.T, p.1 = P0 → p.2 = ((envOfC "_law_by_looks" (defScope (top 104)) 0 0 .none).qual ++ "<lambda>")) (G_book_for : GFn P w K mg base "book_for" k_book_for ["meal", "looks"] (lift K 2 (FSp.of f_book_for))) (G_enough : GFn P w K mg base "enough" k_enough ["meal", "looks"] (lift K 2 (FSp.of f_enough))) (G_in_place : GFn P w K mg base "in_place" k_in_place ["meal", "looks", "look", "other"] (lift K 4 (FSp.of f_in_place))) (G_is_reason : GFn P w K mg base "is_reason" k_is_reason ["meal", "looks", "thing"] (lift K 3 (FSp.of f_is_reason))) (G_reason : GFn P w K mg base "reason" k_reason ["meal", "looks"] (lift K 2 (FSp.of f_reason))) (U__law_refused : GTr P w K mg base "_law_refused" (.told "told") [("NoDish", some 2, .fld "dish" "name"), ("NoWish", some 2, .fld "wish" "index")]) : BodyL P w K mg base N__law_by_looks "_law_by_looks" (defScope (top 104)) 12 [] [2] (defBody (top 104)) (upS (B__law_by_looks)) c0 := by
  have nd := sc__law_by_looks.nd
  intro f A outer s H E hr
  have tk := cx_tk (P := P) (w := w) (K := K) (mg := mg) (base := base) (N := N__law_by_looks) (qual := "_law_by_looks") (scope := defScope (top 104)) (f := f) (cdv := .ref c0) (A := A) (outer := outer) (s := s) (H := H) (E := E)
  have po := cx_po (P := P) (w := w) (K := K) (mg := mg) (base := base) (N := N__law_by_looks) (qual := "_law_by_looks") (scope := defScope (top 104)) (f := f) (cdv := .ref c0) (A := A) (outer := outer) (s := s) (H := H) (E := E)
  have uc := cx_uc (P := P) (w := w) (K := K) (mg := mg) (base := base) (N := N__law_by_looks) (qual := "_law_by_looks") (scope := defScope (top 104)) (f := f) (cdv := .ref c0) (A := A) (outer := outer) (s := s) (H := H) (E := E)
  exact loSs (vss_cons (loS (vs_setF (i := 2) (by decide) (by decide) nd rfl (by first | exact .inl rfl | exact .inr rfl) (loF (vf_lst (loA (va_cons stbE (lo (ve_tried U__law_refused rfl TB0 rfl hT0 hU0 hr (k := 10) (by decide) (LamX.lamS_by (sc := defScope (top 104)) (by decide +kernel)) rfl (by intros; rfl) (fun A outer s H E f c' hr => have tk := lam_tk (A := A) (outer := outer) (s := s) (H := H) (E := E) (f := f) (c' := c'); lo (ve_g tk rfl G_book_for hr (by decide) rfl (loA (va_cons stbE (lo (ve_var (i := 0) (by decide) rfl (by first | exact .inl rfl | exact .inr (.inl rfl) | exact .inr (.inr rfl))) (le_var _)) (loA (va_cons stbE (lo (ve_var (i := 1) (by decide) rfl (by first | exact .inl rfl | exact .inr (.inl rfl) | exact .inr (.inr rfl))) (le_var _)) (loA va_nil le_nil)) le_cons)) le_cons)) le_call)) le_tried) (loA va_nil le_nil)) le_cons)) le_lst)) ls_setF) (loSs (vss_cons (loS (vs_append (i := 2) (by decide) rfl (by first | exact .inl rfl | exact .inr (.inl rfl) | exact .inr (.inr rfl)) (lo (ve_tried U__law_refused rfl TB0 rfl hT0 hU0 hr (k := 10) (by decide) (LamX.lamS_by (sc := defScope (top 104)) (by decide +kernel)) rfl (by intros; rfl) (fun A outer s H E f c' hr => have tk := lam_tk (A := A) (outer := outer) (s := s) (H := H) (E := E) (f := f) (c' := c'); lo (ve_g tk rfl G_reason hr (by decide) rfl (loA (va_cons stbE (lo (ve_var (i := 0) (by decide) rfl (by first | exact .inl rfl | exact .inr (.inl rfl) | exact .inr (.inr rfl))) (le_var _)) (loA (va_cons stbE (lo (ve_var (i := 1) (by decide) rfl (by first | exact .inl rfl | exact .inr (.inl rfl) | exact .inr (.inr rfl))) (le_var _)) (loA va_nil le_nil)) le_cons)) le_cons)) le_call)) le_tried)) ls_app) (loSs (vss_cons (loS (vs_append (i := 2) (by decide) rfl (by first | exact .inl rfl | exact .inr (.inl rfl) | exact .inr (.inr rfl)) (lo (ve_tried U__law_refused rfl TB0 rfl hT0 hU0 hr (k := 10) (by decide) (LamX.lamS_by (sc := defScope (top 104)) (by decide +kernel)) rfl (by intros; rfl) (fun A outer s H E f c' hr => have tk := lam_tk (A := A) (outer := outer) (s := s) (H := H) (E := E) (f := f) (c' := c'); lo (ve_g tk rfl G_is_reason hr (by decide) rfl (loA (va_cons stbE (lo (ve_var (i := 0) (by decide) rfl (by first | exact .inl rfl | exact .inr (.inl rfl) | exact .inr (.inr rfl))) (le_var _)) (loA (va_cons stbE (lo (ve_var (i := 1) (by decide) rfl (by first | exact .inl rfl | exact .inr (.inl rfl) | exact .inr (.inr rfl))) (le_var _)) (loA (va_cons stbE (lo (ve_non) le_c) (loA va_nil le_nil)) le_cons)) le_cons)) le_cons)) le_call)) le_tried)) ls_app) (loSs (vss_cons (loS (vs_append (i := 2) (by decide) rfl (by first | exact .inl rfl | exact .inr (.inl rfl) | exact .inr (.inr rfl)) (lo (ve_tried U__law_refused rfl TB0 rfl hT0 hU0 hr (k := 10) (by decide) (LamX.lamS_by (sc := defScope (top 104)) (by decide +kernel)) rfl (by intros; rfl) (fun A outer s H E f c' hr => have tk := lam_tk (A := A) (outer := outer) (s := s) (H := H) (E := E) (f := f) (c' := c'); lo (ve_g tk rfl G_enough hr (by decide) rfl (loA (va_cons stbE (lo (ve_var (i := 0) (by decide) rfl (by first | exact .inl rfl | exact .inr (.inl rfl) | exact .inr (.inr rfl))) (le_var _)) (loA (va_cons stbE (lo (ve_var (i := 1) (by decide) rfl (by first | exact .inl rfl | exact .inr (.inl rfl) | exact .inr (.inr rfl))) (le_var _)) (loA va_nil le_nil)) le_cons)) le_cons)) le_call)) le_tried)) ls_app) (vss_one (loS (vs_ret (lo (ve_bin od_add (lo (vb_var (i := 2) (by decide) rfl (by first | exact .inl rfl | exact .inr (.inl rfl) | exact .inr (.inr rfl))) (le_var _)) (VE.b (VF.ve (loF (vf_lst (loA (va_cons stbE (lo (ve_tried U__law_refused rfl TB0 rfl hT0 hU0 hr (k := 10) (by decide) (LamX.lamS_by (sc := defScope (top 104)) (by decide +kernel)) rfl (by intros; rfl) (fun A outer s H E f c' hr => have tk := lam_tk (A := A) (outer := outer) (s := s) (H := H) (E := E) (f := f) (c' := c'); lo (ve_g tk rfl G_in_place hr (by decide) rfl (loA (va_cons stbE (lo (ve_var (i := 0) (by decide) rfl (by first | exact .inl rfl | exact .inr (.inl rfl) | exact .inr (.inr rfl))) (le_var _)) (loA (va_cons stbE (lo (ve_var (i := 1) (by decide) rfl (by first | exact .inl rfl | exact .inr (.inl rfl) | exact .inr (.inr rfl))) (le_var _)) (loA (va_cons stbE (lo (ve_non) le_c) (loA (va_cons stbE (lo (ve_non) le_c) (loA va_nil le_nil)) le_cons)) le_cons)) le_cons)) le_cons)) le_call)) le_tried) (loA va_nil le_nil)) le_cons)) le_lst)))) le_bin)) ls_ret))) ls_seq)) ls_seq)) ls_seq)) ls_seq
abbrev k_check_dish : Nat := 3
theorem sc_check_dish : FnScope N_check_dish ["name", "names"] (defScope (top 32)) := ⟨rfl, rfl, rfl, by decide +kernel, rfl, by decide +kernel, by decide +kernel⟩
theorem d_check_dish {P : Program} {w : World} {K : PySem.W.Frag} {mg : Str → Option Value} {base : Heap} (G_is_among : GFn P w K mg base "is_among" k_is_among ["thing", "names"] (lift K 2 (FSp.of f_is_among))) (X_NoDish : GEx P w K mg base "NoDish" 1 ["name"]) : Body P w K mg base N_check_dish "check_dish" (defScope (top 32)) 2 [] [] (defBody (top 32)) (upS (B_check_dish)) := by
  have nd := sc_check_dish.nd
  intro f cdv A outer s H E hr
  have tk := cx_tk (P := P) (w := w) (K := K) (mg := mg) (base := base) (N := N_check_dish) (qual := "check_dish") (scope := defScope (top 32)) (f := f) (cdv := cdv) (A := A) (outer := outer) (s := s) (H := H) (E := E)
  have po := cx_po (P := P) (w := w) (K := K) (mg := mg) (base := base) (N := N_check_dish) (qual := "check_dish") (scope := defScope (top 32)) (f := f) (cdv := cdv) (A := A) (outer := outer) (s := s) (H := H) (E := E)
  have uc := cx_uc (P := P) (w := w) (K := K) (mg := mg) (base := base) (N := N_check_dish) (qual := "check_dish") (scope := defScope (top 32)) (f := f) (cdv := cdv) (A := A) (outer := outer) (s := s) (H := H) (E := E)
  exact vss_one (loS (vs_if (loT (vt_not (loT (vt_val (lo (ve_g tk rfl G_is_among hr (by decide) rfl (loA (va_cons stbE (lo (ve_var (i := 0) (by decide) rfl (by first | exact .inl rfl | exact .inr (.inl rfl) | exact .inr (.inr rfl))) (le_var _)) (loA (va_cons stbE (lo (ve_var (i := 1) (by decide) rfl (by first | exact .inl rfl | exact .inr (.inl rfl) | exact .inr (.inr rfl))) (le_var _)) (loA va_nil le_nil)) le_cons)) le_cons)) le_call)) le_val)) le_notT) (vss_one (loS (vs_raise rfl tk X_NoDish hr (by decide) rfl (loA (va_cons stbE (lo (ve_var (i := 0) (by decide) rfl (by first | exact .inl rfl | exact .inr (.inl rfl) | exact .inr (.inr rfl))) (le_var _)) (loA va_nil le_nil)) le_cons)) ls_raise)) (loSs vss_nil ls_nil)) ls_if)
abbrev k_checked_names : Nat := 4
theorem sc_checked_names : FnScope N_checked_names ["meal", "names"] (defScope (top 86)) := ⟨rfl, rfl, rfl, by decide +kernel, rfl, by decide +kernel, by decide +kernel⟩
theorem d_checked_names {P : Program} {w : World} {K : PySem.W.Frag} {mg : Str → Option Value} {base : Heap} (G_check_dish : GFn P w K mg base "check_dish" k_check_dish ["name", "names"] (lift K 2 (FSp.of f_check_dish))) (cl_Meal : Cls K (He.ga K "Meal")) (f_list : mg "list" = none) (na_Meal_bounds : NoAttr K (He.ga K "Meal") "bounds") : Body P w K mg base N_checked_names "checked_names" (defScope (top 86)) 3 [] [] (defBody (top 86)) (upS (B_checked_names)) := by
  have nd := sc_checked_names.nd
  intro f cdv A outer s H E hr
  have tk := cx_tk (P := P) (w := w) (K := K) (mg := mg) (base := base) (N := N_checked_names) (qual := "checked_names") (scope := defScope (top 86)) (f := f) (cdv := cdv) (A := A) (outer := outer) (s := s) (H := H) (E := E)
  have po := cx_po (P := P) (w := w) (K := K) (mg := mg) (base := base) (N := N_checked_names) (qual := "checked_names") (scope := defScope (top 86)) (f := f) (cdv := cdv) (A := A) (outer := outer) (s := s) (H := H) (E := E)
  have uc := cx_uc (P := P) (w := w) (K := K) (mg := mg) (base := base) (N := N_checked_names) (qual := "checked_names") (scope := defScope (top 86)) (f := f) (cdv := cdv) (A := A) (outer := outer) (s := s) (H := H) (E := E)
  exact loSs (vss_cons (loS (vs_for po rfl (loIs (vi_seq (lo (ve_var (i := 1) (by decide) rfl (by first | exact .inl rfl | exact .inr (.inl rfl) | exact .inr (.inr rfl))) (le_var _))) le_iter) (loG (vg_name (i := 2) (by decide) nd rfl (by first | exact .inl rfl | exact .inr rfl)) (lg_nm)) ((show VSs _ _ _ _ _ _ (upS (b_checked_names_1)) from vss_one (loS (vs_expr (lo (ve_g tk rfl G_check_dish hr (by decide) rfl (loA (va_cons stbE (lo (ve_var (i := 2) (by decide) rfl (by first | exact .inl rfl | exact .inr (.inl rfl) | exact .inr (.inr rfl))) (le_var _)) (loA (va_cons stbE (lo (ve_fld cl_Meal na_Meal_bounds (VE.b (lo (ve_var (i := 0) (by decide) rfl (by first | exact .inl rfl | exact .inr (.inl rfl) | exact .inr (.inr rfl))) (le_var _)))) le_fld) (loA va_nil le_nil)) le_cons)) le_cons)) le_call)) ls_drop)))) ls_for) (vss_one (loS (vs_ret (VF.ve (loF (vf_callTy (cf_list rfl) rfl f_list boot_list (loA (va_cons stbB (VE.b (lo (ve_var (i := 1) (by decide) rfl (by first | exact .inl rfl | exact .inr (.inl rfl) | exact .inr (.inr rfl))) (le_var _))) (loA va_nil le_nil)) le_cons)) le_blt))) ls_ret))) ls_seq
abbrev k_ways : Nat := 1
abbrev k_soonest : Nat := 5
theorem sc_soonest : FnScope N_soonest ["meal", "names", "looks"] (defScope (top 87)) := ⟨rfl, rfl, rfl, by decide +kernel, rfl, by decide +kernel, by decide +kernel⟩
theorem d_soonest {P : Program} {w : World} {K : PySem.W.Frag} {mg : Str → Option Value} {base : Heap} (G_checked_looks : GFn P w K mg base "checked_looks" k_checked_looks ["meal", "looks"] (lift K 2 (FSp.of f_checked_looks))) (G_checked_names : GFn P w K mg base "checked_names" k_checked_names ["meal", "names"] (lift K 2 (FSp.of f_checked_names))) (G_ways : GFn P w K mg base "ways" k_ways ["meal", "looks", "wishes"] (lift K 3 (FSp.of f_ways))) (cl_Meal : Cls K (He.ga K "Meal")) (na_Meal_wish_row : NoAttr K (He.ga K "Meal") "wish_row") : Body P w K mg base N_soonest "soonest" (defScope (top 87)) 4 [] [4] (defBody (top 87)) (upS (B_soonest)) := by
  have nd := sc_soonest.nd
  intro f cdv A outer s H E hr
  have tk := cx_tk (P := P) (w := w) (K := K) (mg := mg) (base := base) (N := N_soonest) (qual := "soonest") (scope := defScope (top 87)) (f := f) (cdv := cdv) (A := A) (outer := outer) (s := s) (H := H) (E := E)
  have po := cx_po (P := P) (w := w) (K := K) (mg := mg) (base := base) (N := N_soonest) (qual := "soonest") (scope := defScope (top 87)) (f := f) (cdv := cdv) (A := A) (outer := outer) (s := s) (H := H) (E := E)
  have uc := cx_uc (P := P) (w := w) (K := K) (mg := mg) (base := base) (N := N_soonest) (qual := "soonest") (scope := defScope (top 87)) (f := f) (cdv := cdv) (A := A) (outer := outer) (s := s) (H := H) (E := E)
  exact loSs (vss_cons (loS (vs_set (i := 3) (by decide) nd rfl (by first | exact .inl rfl | exact .inr rfl) (lo (ve_g tk rfl G_checked_names hr (by decide) rfl (loA (va_cons stbE (lo (ve_var (i := 0) (by decide) rfl (by first | exact .inl rfl | exact .inr (.inl rfl) | exact .inr (.inr rfl))) (le_var _)) (loA (va_cons stbE (lo (ve_var (i := 1) (by decide) rfl (by first | exact .inl rfl | exact .inr (.inl rfl) | exact .inr (.inr rfl))) (le_var _)) (loA va_nil le_nil)) le_cons)) le_cons)) le_call)) ls_set) (loSs (vss_cons (loS (vs_setF (i := 4) (by decide) (by decide) nd rfl (by first | exact .inl rfl | exact .inr rfl) (loF (vf_lst (loA va_nil le_nil)) le_lst)) ls_setF) (loSs (vss_cons (loS (vs_for po rfl (loIs (vi_seq (lo (ve_g tk rfl G_ways hr (by decide) rfl (loA (va_cons stbE (lo (ve_var (i := 0) (by decide) rfl (by first | exact .inl rfl | exact .inr (.inl rfl) | exact .inr (.inr rfl))) (le_var _)) (loA (va_cons stbE (lo (ve_g tk rfl G_checked_looks hr (by decide) rfl (loA (va_cons stbE (lo (ve_var (i := 0) (by decide) rfl (by first | exact .inl rfl | exact .inr (.inl rfl) | exact .inr (.inr rfl))) (le_var _)) (loA (va_cons stbE (lo (ve_var (i := 2) (by decide) rfl (by first | exact .inl rfl | exact .inr (.inl rfl) | exact .inr (.inr rfl))) (le_var _)) (loA va_nil le_nil)) le_cons)) le_cons)) le_call) (loA (va_cons stbE (lo (ve_fld cl_Meal na_Meal_wish_row (VE.b (lo (ve_var (i := 0) (by decide) rfl (by first | exact .inl rfl | exact .inr (.inl rfl) | exact .inr (.inr rfl))) (le_var _)))) le_fld) (loA va_nil le_nil)) le_cons)) le_cons)) le_cons)) le_call)) le_iter) (loG (vg_tup rfl (vgs_cons (vg_name (i := 5) (by decide) nd rfl (by first | exact .inl rfl | exact .inr rfl)) (vgs_cons (vg_name (i := 6) (by decide) nd rfl (by first | exact .inl rfl | exact .inr rfl)) (vgs_nil))) (fun _ _ _ h => ((gsok_cons gok_nm (gsok_cons gok_nm (gsok_nil))) _ _ _ h).1)) (lg_tp (lgs_cons (lg_nm) (lgs_cons (lg_nm) (lgs_nil))))) ((show VSs _ _ _ _ _ _ (upS (b_soonest_1)) from loSs vss_never ls_never))) ls_for) (vss_one (loS vs_never ls_never))) ls_seq)) ls_seq)) ls_seq
abbrev k_closest : Nat := 5
theorem sc_closest : FnScope N_closest ["meal", "names", "looks"] (defScope (top 88)) := ⟨rfl, rfl, rfl, by decide +kernel, rfl, by decide +kernel, by decide +kernel⟩
theorem d_closest {P : Program} {w : World} {K : PySem.W.Frag} {mg : Str → Option Value} {base : Heap} (G_checked_looks : GFn P w K mg base "checked_looks" k_checked_looks ["meal", "looks"] (lift K 2 (FSp.of f_checked_looks))) (G_checked_names : GFn P w K mg base "checked_names" k_checked_names ["meal", "names"] (lift K 2 (FSp.of f_checked_names))) (G_ways : GFn P w K mg base "ways" k_ways ["meal", "looks", "wishes"] (lift K 3 (FSp.of f_ways))) (cl_Meal : Cls K (He.ga K "Meal")) (na_Meal_wish_row : NoAttr K (He.ga K "Meal") "wish_row") : Body P w K mg base N_closest "closest" (defScope (top 88)) 4 [] [4] (defBody (top 88)) (upS (B_closest)) := by
  have nd := sc_closest.nd
  intro f cdv A outer s H E hr
  have tk := cx_tk (P := P) (w := w) (K := K) (mg := mg) (base := base) (N := N_closest) (qual := "closest") (scope := defScope (top 88)) (f := f) (cdv := cdv) (A := A) (outer := outer) (s := s) (H := H) (E := E)
  have po := cx_po (P := P) (w := w) (K := K) (mg := mg) (base := base) (N := N_closest) (qual := "closest") (scope := defScope (top 88)) (f := f) (cdv := cdv) (A := A) (outer := outer) (s := s) (H := H) (E := E)
  have uc := cx_uc (P := P) (w := w) (K := K) (mg := mg) (base := base) (N := N_closest) (qual := "closest") (scope := defScope (top 88)) (f := f) (cdv := cdv) (A := A) (outer := outer) (s := s) (H := H) (E := E)
  exact loSs (vss_cons (loS (vs_set (i := 3) (by decide) nd rfl (by first | exact .inl rfl | exact .inr rfl) (lo (ve_g tk rfl G_checked_names hr (by decide) rfl (loA (va_cons stbE (lo (ve_var (i := 0) (by decide) rfl (by first | exact .inl rfl | exact .inr (.inl rfl) | exact .inr (.inr rfl))) (le_var _)) (loA (va_cons stbE (lo (ve_var (i := 1) (by decide) rfl (by first | exact .inl rfl | exact .inr (.inl rfl) | exact .inr (.inr rfl))) (le_var _)) (loA va_nil le_nil)) le_cons)) le_cons)) le_call)) ls_set) (loSs (vss_cons (loS (vs_setF (i := 4) (by decide) (by decide) nd rfl (by first | exact .inl rfl | exact .inr rfl) (loF (vf_lst (loA va_nil le_nil)) le_lst)) ls_setF) (loSs (vss_cons (loS (vs_for po rfl (loIs (vi_seq (lo (ve_g tk rfl G_ways hr (by decide) rfl (loA (va_cons stbE (lo (ve_var (i := 0) (by decide) rfl (by first | exact .inl rfl | exact .inr (.inl rfl) | exact .inr (.inr rfl))) (le_var _)) (loA (va_cons stbE (lo (ve_g tk rfl G_checked_looks hr (by decide) rfl (loA (va_cons stbE (lo (ve_var (i := 0) (by decide) rfl (by first | exact .inl rfl | exact .inr (.inl rfl) | exact .inr (.inr rfl))) (le_var _)) (loA (va_cons stbE (lo (ve_var (i := 2) (by decide) rfl (by first | exact .inl rfl | exact .inr (.inl rfl) | exact .inr (.inr rfl))) (le_var _)) (loA va_nil le_nil)) le_cons)) le_cons)) le_call) (loA (va_cons stbE (lo (ve_fld cl_Meal na_Meal_wish_row (VE.b (lo (ve_var (i := 0) (by decide) rfl (by first | exact .inl rfl | exact .inr (.inl rfl) | exact .inr (.inr rfl))) (le_var _)))) le_fld) (loA va_nil le_nil)) le_cons)) le_cons)) le_cons)) le_call)) le_iter) (loG (vg_tup rfl (vgs_cons (vg_name (i := 5) (by decide) nd rfl (by first | exact .inl rfl | exact .inr rfl)) (vgs_cons (vg_name (i := 6) (by decide) nd rfl (by first | exact .inl rfl | exact .inr rfl)) (vgs_nil))) (fun _ _ _ h => ((gsok_cons gok_nm (gsok_cons gok_nm (gsok_nil))) _ _ _ h).1)) (lg_tp (lgs_cons (lg_nm) (lgs_cons (lg_nm) (lgs_nil))))) ((show VSs _ _ _ _ _ _ (upS (b_closest_1)) from loSs vss_never ls_never))) ls_for) (vss_one (loS vs_never ls_never))) ls_seq)) ls_seq)) ls_seq
abbrev k__law_by_names : Nat := 8
theorem sc__law_by_names : FnScope N__law_by_names ["_law_meal_here", "_law_names_here", "_law_bad"] (defScope (top 105)) := ⟨rfl, rfl, rfl, by decide +kernel, rfl, by decide +kernel, by decide +kernel⟩
theorem d__law_by_names {P : Program} {w : World} {K : PySem.W.Frag} {mg : Str → Option Value} {base : Heap} {c0 P0 : Addr} (TB0 : LamX.TabB base mg c0 P0) (hT0 : (P0, ((envOfC "_law_by_names" (defScope (top 105)) 0 0 .none).qual ++ "<lambda>")) ∈ TabC.T) (hU0 : ∀ p ∈ TabC.T, p.1 = P0 → p.2 = ((envOfC "_law_by_names" (defScope (top 105)) 0 0 .none).qual ++ "<lambda>")) (G_closest : GFn P w K mg base "closest" k_closest ["meal", "names", "looks"] (lift K 3 (FSp.of f_closest))) (G_soonest : GFn P w K mg base "soonest" k_soonest ["meal", "names", "looks"] (lift K 3 (FSp.of f_soonest))) (U__law_refused : GTr P w K mg base "_law_refused" (.told "told") [("NoDish", some 2, .fld "dish" "name"), ("NoWish", some 2, .fld "wish" "index")]) : BodyL P w K mg base N__law_by_names "_law_by_names" (defScope (top 105)) 7 [] [3] (defBody (top 105)) (upS (B__law_by_names)) c0 := by
  have nd := sc__law_by_names.nd
  intro f A outer s H E hr
  have tk := cx_tk (P := P) (w := w) (K := K) (mg := mg) (base := base) (N := N__law_by_names) (qual := "_law_by_names") (scope := defScope (top 105)) (f := f) (cdv := .ref c0) (A := A) (outer := outer) (s := s) (H := H) (E := E)
  have po := cx_po (P := P) (w := w) (K := K) (mg := mg) (base := base) (N := N__law_by_names) (qual := "_law_by_names") (scope := defScope (top 105)) (f := f) (cdv := .ref c0) (A := A) (outer := outer) (s := s) (H := H) (E := E)
  have uc := cx_uc (P := P) (w := w) (K := K) (mg := mg) (base := base) (N := N__law_by_names) (qual := "_law_by_names") (scope := defScope (top 105)) (f := f) (cdv := .ref c0) (A := A) (outer := outer) (s := s) (H := H) (E := E)
  exact loSs (vss_cons (loS (vs_setF (i := 3) (by decide) (by decide) nd rfl (by first | exact .inl rfl | exact .inr rfl) (loF (vf_lst (loA (va_cons stbE (lo (ve_tried U__law_refused rfl TB0 rfl hT0 hU0 hr (k := 5) (by decide) (LamX.lamS_by (sc := defScope (top 105)) (by decide +kernel)) rfl (by intros; rfl) (fun A outer s H E f c' hr => have tk := lam_tk (A := A) (outer := outer) (s := s) (H := H) (E := E) (f := f) (c' := c'); lo (ve_g tk rfl G_soonest hr (by decide) rfl (loA (va_cons stbE (lo (ve_var (i := 0) (by decide) rfl (by first | exact .inl rfl | exact .inr (.inl rfl) | exact .inr (.inr rfl))) (le_var _)) (loA (va_cons stbE (lo (ve_var (i := 2) (by decide) rfl (by first | exact .inl rfl | exact .inr (.inl rfl) | exact .inr (.inr rfl))) (le_var _)) (loA (va_cons stbE (VF.ve (loF (vf_lst (loA (va_cons stbE (lo (ve_str) le_c) (loA va_nil le_nil)) le_cons)) le_lst)) (loA va_nil le_nil)) le_cons)) le_cons)) le_cons)) le_call)) le_tried) (loA va_nil le_nil)) le_cons)) le_lst)) ls_setF) (loSs (vss_cons (loS (vs_append (i := 3) (by decide) rfl (by first | exact .inl rfl | exact .inr (.inl rfl) | exact .inr (.inr rfl)) (lo (ve_tried U__law_refused rfl TB0 rfl hT0 hU0 hr (k := 5) (by decide) (LamX.lamS_by (sc := defScope (top 105)) (by decide +kernel)) rfl (by intros; rfl) (fun A outer s H E f c' hr => have tk := lam_tk (A := A) (outer := outer) (s := s) (H := H) (E := E) (f := f) (c' := c'); lo (ve_g tk rfl G_closest hr (by decide) rfl (loA (va_cons stbE (lo (ve_var (i := 0) (by decide) rfl (by first | exact .inl rfl | exact .inr (.inl rfl) | exact .inr (.inr rfl))) (le_var _)) (loA (va_cons stbE (lo (ve_var (i := 2) (by decide) rfl (by first | exact .inl rfl | exact .inr (.inl rfl) | exact .inr (.inr rfl))) (le_var _)) (loA (va_cons stbE (VF.ve (loF (vf_lst (loA (va_cons stbE (lo (ve_str) le_c) (loA va_nil le_nil)) le_cons)) le_lst)) (loA va_nil le_nil)) le_cons)) le_cons)) le_cons)) le_call)) le_tried)) ls_app) (loSs (vss_cons (loS (vs_append (i := 3) (by decide) rfl (by first | exact .inl rfl | exact .inr (.inl rfl) | exact .inr (.inr rfl)) (lo (ve_tried U__law_refused rfl TB0 rfl hT0 hU0 hr (k := 5) (by decide) (LamX.lamS_by (sc := defScope (top 105)) (by decide +kernel)) rfl (by intros; rfl) (fun A outer s H E f c' hr => have tk := lam_tk (A := A) (outer := outer) (s := s) (H := H) (E := E) (f := f) (c' := c'); lo (ve_g tk rfl G_soonest hr (by decide) rfl (loA (va_cons stbE (lo (ve_var (i := 0) (by decide) rfl (by first | exact .inl rfl | exact .inr (.inl rfl) | exact .inr (.inr rfl))) (le_var _)) (loA (va_cons stbE (lo (ve_var (i := 1) (by decide) rfl (by first | exact .inl rfl | exact .inr (.inl rfl) | exact .inr (.inr rfl))) (le_var _)) (loA (va_cons stbE (lo (ve_var (i := 2) (by decide) rfl (by first | exact .inl rfl | exact .inr (.inl rfl) | exact .inr (.inr rfl))) (le_var _)) (loA va_nil le_nil)) le_cons)) le_cons)) le_cons)) le_call)) le_tried)) ls_app) (vss_one (loS (vs_ret (lo (ve_bin od_add (lo (vb_var (i := 3) (by decide) rfl (by first | exact .inl rfl | exact .inr (.inl rfl) | exact .inr (.inr rfl))) (le_var _)) (VE.b (VF.ve (loF (vf_lst (loA (va_cons stbE (lo (ve_tried U__law_refused rfl TB0 rfl hT0 hU0 hr (k := 5) (by decide) (LamX.lamS_by (sc := defScope (top 105)) (by decide +kernel)) rfl (by intros; rfl) (fun A outer s H E f c' hr => have tk := lam_tk (A := A) (outer := outer) (s := s) (H := H) (E := E) (f := f) (c' := c'); lo (ve_g tk rfl G_closest hr (by decide) rfl (loA (va_cons stbE (lo (ve_var (i := 0) (by decide) rfl (by first | exact .inl rfl | exact .inr (.inl rfl) | exact .inr (.inr rfl))) (le_var _)) (loA (va_cons stbE (lo (ve_var (i := 1) (by decide) rfl (by first | exact .inl rfl | exact .inr (.inl rfl) | exact .inr (.inr rfl))) (le_var _)) (loA (va_cons stbE (lo (ve_var (i := 2) (by decide) rfl (by first | exact .inl rfl | exact .inr (.inl rfl) | exact .inr (.inr rfl))) (le_var _)) (loA va_nil le_nil)) le_cons)) le_cons)) le_cons)) le_call)) le_tried) (loA va_nil le_nil)) le_cons)) le_lst)))) le_bin)) ls_ret))) ls_seq)) ls_seq)) ls_seq
abbrev k__law_same : Nat := 7
theorem sc__law_same : FnScope N__law_same ["_law_found", "_law_due"] (defScope (top 95)) := ⟨rfl, rfl, rfl, by decide +kernel, rfl, by decide +kernel, by decide +kernel⟩
theorem d__law_same {P : Program} {w : World} {K : PySem.W.Frag} {mg : Str → Option Value} {base : Heap} {kk : Nat} {sf : FFn} (hkk : 0 ≤ kk) (G_self : GFn P w K mg base "_law_same" kk ["_law_found", "_law_due"] (lift K 2 (FSp.of sf))) (f_all : mg "all" = none) (f_bool : mg "bool" = none) (f_int : mg "int" = none) (f_isinstance : mg "isinstance" = none) (f_len : mg "len" = none) (f_list : mg "list" = none) (f_tuple : mg "tuple" = none) (f_zip : mg "zip" = none) : Body P w K mg base N__law_same "_law_same" (defScope (top 95)) kk [] [] (defBody (top 95)) (upS (B__law_same sf)) := by
  have nd := sc__law_same.nd
  intro f cdv A outer s H E hr
  have tk := cx_tk (P := P) (w := w) (K := K) (mg := mg) (base := base) (N := N__law_same) (qual := "_law_same") (scope := defScope (top 95)) (f := f) (cdv := cdv) (A := A) (outer := outer) (s := s) (H := H) (E := E)
  have po := cx_po (P := P) (w := w) (K := K) (mg := mg) (base := base) (N := N__law_same) (qual := "_law_same") (scope := defScope (top 95)) (f := f) (cdv := cdv) (A := A) (outer := outer) (s := s) (H := H) (E := E)
  have uc := cx_uc (P := P) (w := w) (K := K) (mg := mg) (base := base) (N := N__law_same) (qual := "_law_same") (scope := defScope (top 95)) (f := f) (cdv := cdv) (A := A) (outer := outer) (s := s) (H := H) (E := E)
  exact loSs (vss_cons (loS (vs_if (loT (vt_val (lo (ve_callB cd_isi rfl f_isinstance boot_isinstance (loA (va_cons stbB (VE.b (lo (ve_var (i := 1) (by decide) rfl (by first | exact .inl rfl | exact .inr (.inl rfl) | exact .inr (.inr rfl))) (le_var _))) (loA (va_cons stbB (VE.b (lo (ve_tup (loA (va_cons stbE (lo (ve_bty (T := "list") rfl f_list boot_list) le_c) (loA (va_cons stbE (lo (ve_bty (T := "tuple") rfl f_tuple boot_tuple) le_c) (loA va_nil le_nil)) le_cons)) le_cons)) le_tup)) (loA va_nil le_nil)) le_cons)) le_cons)) le_blt)) le_val) (loSs (vss_cons (loS (vs_if (VW.t (loW (vw_or (loT (vt_cmp (od_neX (Room.u66 hr)) (VE.b (lo (ve_callB cd_isi rfl f_isinstance boot_isinstance (loA (va_cons stbB (VE.b (lo (ve_var (i := 0) (by decide) rfl (by first | exact .inl rfl | exact .inr (.inl rfl) | exact .inr (.inr rfl))) (le_var _))) (loA (va_cons stbB (VE.b (lo (ve_bty (T := "list") rfl f_list boot_list) le_c)) (loA va_nil le_nil)) le_cons)) le_cons)) le_blt)) (VE.b (lo (ve_callB cd_isi rfl f_isinstance boot_isinstance (loA (va_cons stbB (VE.b (lo (ve_var (i := 1) (by decide) rfl (by first | exact .inl rfl | exact .inr (.inl rfl) | exact .inr (.inr rfl))) (le_var _))) (loA (va_cons stbB (VE.b (lo (ve_bty (T := "list") rfl f_list boot_list) le_c)) (loA va_nil le_nil)) le_cons)) le_cons)) le_blt)) (nomark _)) le_binT) (vw_or1 (loT (vt_cmp (od_neX (Room.u66 hr)) (VE.b (lo (ve_callB cd_isi rfl f_isinstance boot_isinstance (loA (va_cons stbB (VE.b (lo (ve_var (i := 0) (by decide) rfl (by first | exact .inl rfl | exact .inr (.inl rfl) | exact .inr (.inr rfl))) (le_var _))) (loA (va_cons stbB (VE.b (lo (ve_bty (T := "tuple") rfl f_tuple boot_tuple) le_c)) (loA va_nil le_nil)) le_cons)) le_cons)) le_blt)) (VE.b (lo (ve_callB cd_isi rfl f_isinstance boot_isinstance (loA (va_cons stbB (VE.b (lo (ve_var (i := 1) (by decide) rfl (by first | exact .inl rfl | exact .inr (.inl rfl) | exact .inr (.inr rfl))) (le_var _))) (loA (va_cons stbB (VE.b (lo (ve_bty (T := "tuple") rfl f_tuple boot_tuple) le_c)) (loA va_nil le_nil)) le_cons)) le_cons)) le_blt)) (nomark _)) le_binT))) le_orT)) (vss_one (loS (vs_ret (lo (ve_bl) le_c)) ls_ret)) (loSs vss_nil ls_nil)) ls_if) (vss_one (loS (vs_ret (lo (ve_and (lo (ve_cmp (od_eqX (Room.u66 hr)) (VE.b (lo (ve_callB cd_len rfl f_len boot_len (loA (va_cons stbB (VE.b (lo (ve_var (i := 0) (by decide) rfl (by first | exact .inl rfl | exact .inr (.inl rfl) | exact .inr (.inr rfl))) (le_var _))) (loA va_nil le_nil)) le_cons)) le_blt)) (VE.b (lo (ve_callB cd_len rfl f_len boot_len (loA (va_cons stbB (VE.b (lo (ve_var (i := 1) (by decide) rfl (by first | exact .inl rfl | exact .inr (.inl rfl) | exact .inr (.inr rfl))) (le_var _))) (loA va_nil le_nil)) le_cons)) le_blt)) (nomark _)) le_bin) (ve_one (lo (ve_callB (cd_all rfl) rfl f_all boot_all (loA (va_cons stbB (VE.b (VF.ve (loF (xf_lc rfl rfl nd (VIs.vi (loIs (vi_zip rfl f_zip (lo (ve_var (i := 0) (by decide) rfl (by first | exact .inl rfl | exact .inr (.inl rfl) | exact .inr (.inr rfl))) (le_var _)) (lo (ve_var (i := 1) (by decide) rfl (by first | exact .inl rfl | exact .inr (.inl rfl) | exact .inr (.inr rfl))) (le_var _))) le_zip)) (blkOk_by (own := [("_law_x", 2), ("_law_y", 3)]) (N := N__law_same) (sc := defScope (top 95)) (by decide +kernel)) (by decide) (by decide) (fun c => loG (vg_tup rfl (vgs_cons (vg_name (i := 2) (by decide) nd rfl (by first | exact .inl rfl | exact .inr rfl)) (vgs_cons (vg_name (i := 3) (by decide) nd rfl (by first | exact .inl rfl | exact .inr rfl)) (vgs_nil))) (fun _ _ _ h => ((gsok_cons gok_nm (gsok_cons gok_nm (gsok_nil))) _ _ _ h).1)) (lg_tp (lgs_cons (lg_nm) (lgs_cons (lg_nm) (lgs_nil))))) (fun c => loTs vts_nil le_yes) (fun c => lo (ve_g tk_f rfl G_self hr (Nat.le_refl _) rfl (loA (va_cons stbE (lo (ve_var (i := 2) (by decide) rfl (by first | exact .inl rfl | exact .inr (.inl rfl) | exact .inr (.inr rfl))) (le_var _)) (loA (va_cons stbE (lo (ve_var (i := 3) (by decide) rfl (by first | exact .inl rfl | exact .inr (.inl rfl) | exact .inr (.inr rfl))) (le_var _)) (loA va_nil le_nil)) le_cons)) le_cons)) le_call)) le_lc))) (loA va_nil le_nil)) le_cons)) le_blt))) le_and)) ls_ret))) ls_seq) (loSs vss_nil ls_nil)) ls_if) (loSs (vss_cons (loS (vs_if (loT (vt_val (lo (ve_callB cd_isi rfl f_isinstance boot_isinstance (loA (va_cons stbB (VE.b (lo (ve_var (i := 1) (by decide) rfl (by first | exact .inl rfl | exact .inr (.inl rfl) | exact .inr (.inr rfl))) (le_var _))) (loA (va_cons stbB (VE.b (lo (ve_bty (T := "int") rfl f_int boot_int) le_c)) (loA va_nil le_nil)) le_cons)) le_cons)) le_blt)) le_val) (vss_one (loS (vs_ret (lo (ve_and (lo (ve_callB cd_isi rfl f_isinstance boot_isinstance (loA (va_cons stbB (VE.b (lo (ve_var (i := 0) (by decide) rfl (by first | exact .inl rfl | exact .inr (.inl rfl) | exact .inr (.inr rfl))) (le_var _))) (loA (va_cons stbB (VE.b (lo (ve_bty (T := "int") rfl f_int boot_int) le_c)) (loA va_nil le_nil)) le_cons)) le_cons)) le_blt) (lo (ve_and (lo (ve_cmp (od_eqX (Room.u66 hr)) (VE.b (lo (ve_callB cd_isi rfl f_isinstance boot_isinstance (loA (va_cons stbB (VE.b (lo (ve_var (i := 0) (by decide) rfl (by first | exact .inl rfl | exact .inr (.inl rfl) | exact .inr (.inr rfl))) (le_var _))) (loA (va_cons stbB (VE.b (lo (ve_bty (T := "bool") rfl f_bool boot_bool) le_c)) (loA va_nil le_nil)) le_cons)) le_cons)) le_blt)) (VE.b (lo (ve_callB cd_isi rfl f_isinstance boot_isinstance (loA (va_cons stbB (VE.b (lo (ve_var (i := 1) (by decide) rfl (by first | exact .inl rfl | exact .inr (.inl rfl) | exact .inr (.inr rfl))) (le_var _))) (loA (va_cons stbB (VE.b (lo (ve_bty (T := "bool") rfl f_bool boot_bool) le_c)) (loA va_nil le_nil)) le_cons)) le_cons)) le_blt)) (nomark _)) le_bin) (ve_one (lo (ve_cmp (od_eqX (Room.u66 hr)) (VE.b (lo (ve_var (i := 0) (by decide) rfl (by first | exact .inl rfl | exact .inr (.inl rfl) | exact .inr (.inr rfl))) (le_var _))) (VE.b (lo (ve_var (i := 1) (by decide) rfl (by first | exact .inl rfl | exact .inr (.inl rfl) | exact .inr (.inr rfl))) (le_var _))) (nomark _)) le_bin))) le_and)) le_and)) ls_ret)) (loSs vss_nil ls_nil)) ls_if) (vss_one (loS (vs_ret (lo (ve_and (lo (ve_cmp od_is (VE.b (lo (ve_callB cd_isi rfl f_isinstance boot_isinstance (loA (va_cons stbB (VE.b (lo (ve_var (i := 0) (by decide) rfl (by first | exact .inl rfl | exact .inr (.inl rfl) | exact .inr (.inr rfl))) (le_var _))) (loA (va_cons stbB (VE.b (lo (ve_tup (loA (va_cons stbE (lo (ve_bty (T := "int") rfl f_int boot_int) le_c) (loA (va_cons stbE (lo (ve_bty (T := "list") rfl f_list boot_list) le_c) (loA (va_cons stbE (lo (ve_bty (T := "tuple") rfl f_tuple boot_tuple) le_c) (loA va_nil le_nil)) le_cons)) le_cons)) le_cons)) le_tup)) (loA va_nil le_nil)) le_cons)) le_cons)) le_blt)) (VE.b (lo (ve_bl) le_c)) (nomark _)) le_bin) (ve_one (lo (ve_cmp (od_eqX (Room.u66 hr)) (VE.b (lo (ve_var (i := 0) (by decide) rfl (by first | exact .inl rfl | exact .inr (.inl rfl) | exact .inr (.inr rfl))) (le_var _))) (VE.b (lo (ve_var (i := 1) (by decide) rfl (by first | exact .inl rfl | exact .inr (.inl rfl) | exact .inr (.inr rfl))) (le_var _))) (nomark _)) le_bin))) le_and)) ls_ret))) ls_seq)) ls_seq
abbrev k_Meal_check_index : Nat := 3
theorem sc_Meal_check_index : FnScope N_Meal_check_index ["self", "index"] (defScope (mth 31 10)) := ⟨rfl, rfl, rfl, by decide +kernel, rfl, by decide +kernel, by decide +kernel⟩
theorem d_Meal_check_index {P : Program} {w : World} {K : PySem.W.Frag} {mg : Str → Option Value} {base : Heap} (G_is_integer : GFn P w K mg base "is_integer" k_is_integer ["thing"] (lift K 1 (FSp.of f_is_integer))) (X_NoWish : GEx P w K mg base "NoWish" 1 ["index"]) (cl_Meal : Cls K (He.ga K "Meal")) (f_len : mg "len" = none) (na_Meal_wish_row : NoAttr K (He.ga K "Meal") "wish_row") : Body P w K mg base N_Meal_check_index "Meal.check_index" (defScope (mth 31 10)) 2 [] [] (defBody (mth 31 10)) (upS (B_Meal_check_index)) := by
  have nd := sc_Meal_check_index.nd
  intro f cdv A outer s H E hr
  have tk := cx_tk (P := P) (w := w) (K := K) (mg := mg) (base := base) (N := N_Meal_check_index) (qual := "Meal.check_index") (scope := defScope (mth 31 10)) (f := f) (cdv := cdv) (A := A) (outer := outer) (s := s) (H := H) (E := E)
  have po := cx_po (P := P) (w := w) (K := K) (mg := mg) (base := base) (N := N_Meal_check_index) (qual := "Meal.check_index") (scope := defScope (mth 31 10)) (f := f) (cdv := cdv) (A := A) (outer := outer) (s := s) (H := H) (E := E)
  have uc := cx_uc (P := P) (w := w) (K := K) (mg := mg) (base := base) (N := N_Meal_check_index) (qual := "Meal.check_index") (scope := defScope (mth 31 10)) (f := f) (cdv := cdv) (A := A) (outer := outer) (s := s) (H := H) (E := E)
  exact vss_one (loS (vs_if (VW.t (loW (vw_or (loT (vt_not (loT (vt_val (lo (ve_g tk rfl G_is_integer hr (by decide) rfl (loA (va_cons stbE (lo (ve_var (i := 1) (by decide) rfl (by first | exact .inl rfl | exact .inr (.inl rfl) | exact .inr (.inr rfl))) (le_var _)) (loA va_nil le_nil)) le_cons)) le_call)) le_val)) le_notT) (vw_or1 (loT (vt_not (loT (vt_chain od_le od_lt (VE.b (lo (ve_int) le_c)) (VE.b (lo (ve_var (i := 1) (by decide) rfl (by first | exact .inl rfl | exact .inr (.inl rfl) | exact .inr (.inr rfl))) (le_var _))) (VE.b (lo (ve_callB cd_len rfl f_len boot_len (loA (va_cons stbB (VE.b (lo (ve_fld cl_Meal na_Meal_wish_row (VE.b (lo (ve_var (i := 0) (by decide) rfl (by first | exact .inl rfl | exact .inr (.inl rfl) | exact .inr (.inr rfl))) (le_var _)))) le_fld)) (loA va_nil le_nil)) le_cons)) le_blt))) le_chainT)) le_notT))) le_orT)) (vss_one (loS (vs_raise rfl tk X_NoWish hr (by decide) rfl (loA (va_cons stbE (lo (ve_var (i := 1) (by decide) rfl (by first | exact .inl rfl | exact .inr (.inl rfl) | exact .inr (.inr rfl))) (le_var _)) (loA va_nil le_nil)) le_cons)) ls_raise)) (loSs vss_nil ls_nil)) ls_if)
abbrev k_least_most : Nat := 4
theorem sc_least_most : FnScope N_least_most ["meal", "index", "looks"] (defScope (top 85)) := ⟨rfl, rfl, rfl, by decide +kernel, rfl, by decide +kernel, by decide +kernel⟩
theorem d_least_most {P : Program} {w : World} {K : PySem.W.Frag} {mg : Str → Option Value} {base : Heap} (G_Meal_check_index : GMe P w K mg base "Meal" "check_index" k_Meal_check_index ["self", "index"] [] (lift K 2 (FSp.of f_Meal_check_index))) (G_checked_looks : GFn P w K mg base "checked_looks" k_checked_looks ["meal", "looks"] (lift K 2 (FSp.of f_checked_looks))) : Body P w K mg base N_least_most "least_most" (defScope (top 85)) 3 [] [] (defBody (top 85)) (upS (B_least_most)) := by
  have nd := sc_least_most.nd
  intro f cdv A outer s H E hr
  have tk := cx_tk (P := P) (w := w) (K := K) (mg := mg) (base := base) (N := N_least_most) (qual := "least_most") (scope := defScope (top 85)) (f := f) (cdv := cdv) (A := A) (outer := outer) (s := s) (H := H) (E := E)
  have po := cx_po (P := P) (w := w) (K := K) (mg := mg) (base := base) (N := N_least_most) (qual := "least_most") (scope := defScope (top 85)) (f := f) (cdv := cdv) (A := A) (outer := outer) (s := s) (H := H) (E := E)
  have uc := cx_uc (P := P) (w := w) (K := K) (mg := mg) (base := base) (N := N_least_most) (qual := "least_most") (scope := defScope (top 85)) (f := f) (cdv := cdv) (A := A) (outer := outer) (s := s) (H := H) (E := E)
  exact loSs (vss_cons (loS (vs_expr (lo (ve_me tk rfl G_Meal_check_index hr (by decide) (lo (ve_var (i := 0) (by decide) rfl (by first | exact .inl rfl | exact .inr (.inl rfl) | exact .inr (.inr rfl))) (le_var _)) (loA (va_cons stbE (lo (ve_var (i := 1) (by decide) rfl (by first | exact .inl rfl | exact .inr (.inl rfl) | exact .inr (.inr rfl))) (le_var _)) (loA va_nil le_nil)) le_cons)) le_meth)) ls_drop) (loSs (vss_cons (loS (vs_set (i := 3) (by decide) nd rfl (by first | exact .inl rfl | exact .inr rfl) (lo (ve_g tk rfl G_checked_looks hr (by decide) rfl (loA (va_cons stbE (lo (ve_var (i := 0) (by decide) rfl (by first | exact .inl rfl | exact .inr (.inl rfl) | exact .inr (.inr rfl))) (le_var _)) (loA (va_cons stbE (lo (ve_var (i := 2) (by decide) rfl (by first | exact .inl rfl | exact .inr (.inl rfl) | exact .inr (.inr rfl))) (le_var _)) (loA va_nil le_nil)) le_cons)) le_cons)) le_call)) ls_set) (loSs vss_never ls_never)) ls_seq)) ls_seq
abbrev k_law : Nat := 14
theorem sc_law : FnScope N_law ["_law_script"] (defScope (top 106)) := ⟨rfl, rfl, rfl, by decide +kernel, rfl, by decide +kernel, by decide +kernel⟩
theorem d_law {P : Program} {w : World} {K : PySem.W.Frag} {mg : Str → Option Value} {base : Heap} {c0 P0 : Addr} (TB0 : LamX.TabB base mg c0 P0) (hT0 : (P0, ((envOfC "law" (defScope (top 106)) 0 0 .none).qual ++ "<lambda>")) ∈ TabC.T) (hU0 : ∀ p ∈ TabC.T, p.1 = P0 → p.2 = ((envOfC "law" (defScope (top 106)) 0 0 .none).qual ++ "<lambda>")) (G__law_by_looks : GFn P w K mg base "_law_by_looks" k__law_by_looks ["_law_meal_here", "_law_bad"] (lift K 2 (FSp.of f__law_by_looks))) (G__law_by_names : GFn P w K mg base "_law_by_names" k__law_by_names ["_law_meal_here", "_law_names_here", "_law_bad"] (lift K 3 (FSp.of f__law_by_names))) (G__law_meal : GFn P w K mg base "_law_meal" k__law_meal ["_law_state", "_law_many", "_law_wide", "_law_wishes_here"] (lift K 4 sp__law_meal)) (G__law_meal_of : GFn P w K mg base "_law_meal_of" k__law_meal_of ["_law_dishes_here", "_law_wishes_here", "_law_stations"] (lift K 3 (FSp.of f__law_meal_of))) (G__law_same : GFn P w K mg base "_law_same" k__law_same ["_law_found", "_law_due"] (lift K 2 (FSp.of f__law_same))) (G__law_spoilt : GFn P w K mg base "_law_spoilt" k__law_spoilt ["_law_state", "_law_names_here"] (lift K 2 sp__law_spoilt)) (G__law_take : GFn P w K mg base "_law_take" k__law_take ["_law_state", "_law_many"] (lift K 2 sp__law_take)) (G_in_place : GFn P w K mg base "in_place" k_in_place ["meal", "looks", "look", "other"] (lift K 4 (FSp.of f_in_place))) (G_least_most : GFn P w K mg base "least_most" k_least_most ["meal", "index", "looks"] (lift K 3 (FSp.of f_least_most))) (U__law_refused : GTr P w K mg base "_law_refused" (.told "told") [("NoDish", some 2, .fld "dish" "name"), ("NoWish", some 2, .fld "wish" "index")]) (f_all : mg "all" = none) (f_len : mg "len" = none) (f_list : mg "list" = none) (f_range : mg "range" = none) : BodyL P w K mg base N_law "law" (defScope (top 106)) 13 [] [] (defBody (top 106)).tail (B_law) c0 := by
  have nd := sc_law.nd
  intro f A outer s H E hr
  have tk := cx_tk (P := P) (w := w) (K := K) (mg := mg) (base := base) (N := N_law) (qual := "law") (scope := defScope (top 106)) (f := f) (cdv := .ref c0) (A := A) (outer := outer) (s := s) (H := H) (E := E)
  have po := cx_po (P := P) (w := w) (K := K) (mg := mg) (base := base) (N := N_law) (qual := "law") (scope := defScope (top 106)) (f := f) (cdv := .ref c0) (A := A) (outer := outer) (s := s) (H := H) (E := E)
  have uc := cx_uc (P := P) (w := w) (K := K) (mg := mg) (base := base) (N := N_law) (qual := "law") (scope := defScope (top 106)) (f := f) (cdv := .ref c0) (A := A) (outer := outer) (s := s) (H := H) (E := E)
  exact vss_cons (vs_for po rfl (loIs (vi_range1 rfl f_range (VE.b (lo (ve_int) le_c))) le_range1) (loG (vg_name (i := 2) (by decide) nd rfl (by first | exact .inl rfl | exact .inr rfl)) (lg_nm)) (vss_cons (vs_asg (ve_g tk rfl G__law_meal hr (by decide) rfl (va_cons stbE (lo (ve_var (i := 1) (by decide) rfl (by first | exact .inl rfl | exact .inr (.inl rfl) | exact .inr (.inr rfl))) (le_var _)) (va_cons stbE (ve_bin od_add (VE.b (lo (ve_int) le_c)) (VE.b (ve_g tk rfl G__law_take hr (by decide) rfl (loA (va_cons stbE (lo (ve_var (i := 1) (by decide) rfl (by first | exact .inl rfl | exact .inr (.inl rfl) | exact .inr (.inr rfl))) (le_var _)) (loA (va_cons stbE (lo (ve_int) le_c) (loA va_nil le_nil)) le_cons)) le_cons)))) (loA (va_cons stbE (lo (ve_int) le_c) (loA (va_cons stbE (lo (ve_int) le_c) (loA va_nil le_nil)) le_cons)) le_cons)))) (loG (vg_tup rfl (vgs_cons (vg_name (i := 5) (by decide) nd rfl (by first | exact .inl rfl | exact .inr rfl)) (vgs_cons (vg_name (i := 6) (by decide) nd rfl (by first | exact .inl rfl | exact .inr rfl)) (vgs_nil))) (fun _ _ _ h => ((gsok_cons gok_nm (gsok_cons gok_nm (gsok_nil))) _ _ _ h).1)) (lg_tp (lgs_cons (lg_nm) (lgs_cons (lg_nm) (lgs_nil)))))) (vss_cons (loS (vs_asg (lo (ve_tup (loA (va_cons stbE (lo (ve_g tk rfl G__law_meal_of hr (by decide) rfl (loA (va_cons stbE (lo (ve_var (i := 5) (by decide) rfl (by first | exact .inl rfl | exact .inr (.inl rfl) | exact .inr (.inr rfl))) (le_var _)) (loA (va_cons stbE (lo (ve_var (i := 6) (by decide) rfl (by first | exact .inl rfl | exact .inr (.inl rfl) | exact .inr (.inr rfl))) (le_var _)) (loA (va_cons stbE (VF.ve (loF (vf_lst (loA va_nil le_nil)) le_lst)) (loA va_nil le_nil)) le_cons)) le_cons)) le_cons)) le_call) (loA (va_cons stbE (VF.ve (loF (vf_callTy (cf_list rfl) rfl f_list boot_list (loA (va_cons stbB (VE.b (lo (ve_var (i := 5) (by decide) rfl (by first | exact .inl rfl | exact .inr (.inl rfl) | exact .inr (.inr rfl))) (le_var _))) (loA va_nil le_nil)) le_cons)) le_blt)) (loA va_nil le_nil)) le_cons)) le_cons)) le_tup) (loG (vg_tup rfl (vgs_cons (vg_name (i := 7) (by decide) nd rfl (by first | exact .inl rfl | exact .inr rfl)) (vgs_cons (vg_name (i := 8) (by decide) nd rfl (by first | exact .inl rfl | exact .inr rfl)) (vgs_nil))) (fun _ _ _ h => ((gsok_cons gok_nm (gsok_cons gok_nm (gsok_nil))) _ _ _ h).1)) (lg_tp (lgs_cons (lg_nm) (lgs_cons (lg_nm) (lgs_nil)))))) ls_asg) (vss_cons (vs_asg (ve_g tk rfl G__law_spoilt hr (by decide) rfl (loA (va_cons stbE (lo (ve_var (i := 1) (by decide) rfl (by first | exact .inl rfl | exact .inr (.inl rfl) | exact .inr (.inr rfl))) (le_var _)) (loA (va_cons stbE (lo (ve_var (i := 8) (by decide) rfl (by first | exact .inl rfl | exact .inr (.inl rfl) | exact .inr (.inr rfl))) (le_var _)) (loA va_nil le_nil)) le_cons)) le_cons)) (loG (vg_tup rfl (vgs_cons (vg_name (i := 9) (by decide) nd rfl (by first | exact .inl rfl | exact .inr rfl)) (vgs_cons (vg_name (i := 10) (by decide) nd rfl (by first | exact .inl rfl | exact .inr rfl)) (vgs_nil))) (fun _ _ _ h => ((gsok_cons gok_nm (gsok_cons gok_nm (gsok_nil))) _ _ _ h).1)) (lg_tp (lgs_cons (lg_nm) (lgs_cons (lg_nm) (lgs_nil)))))) (loSs (vss_cons (loS (vs_set (i := 3) (by decide) nd rfl (by first | exact .inl rfl | exact .inr rfl) (lo (ve_tup (loA (va_cons stbE (lo (ve_str) le_c) (loA (va_cons stbE (lo (ve_var (i := 10) (by decide) rfl (by first | exact .inl rfl | exact .inr (.inl rfl) | exact .inr (.inr rfl))) (le_var _)) (loA va_nil le_nil)) le_cons)) le_cons)) le_tup)) ls_set) (loSs (vss_cons (loS (vs_if (loT (vt_not (loT (vt_val (lo (ve_callB (cd_all rfl) rfl f_all boot_all (loA (va_cons stbB (VE.b (VF.ve (loF (xf_lc rfl rfl nd (VIs.vi (loIs (vi_seq (lo (ve_bin od_add (VE.b (lo (ve_g tk rfl G__law_by_looks hr (by decide) rfl (loA (va_cons stbE (lo (ve_var (i := 7) (by decide) rfl (by first | exact .inl rfl | exact .inr (.inl rfl) | exact .inr (.inr rfl))) (le_var _)) (loA (va_cons stbE (lo (ve_var (i := 9) (by decide) rfl (by first | exact .inl rfl | exact .inr (.inl rfl) | exact .inr (.inr rfl))) (le_var _)) (loA va_nil le_nil)) le_cons)) le_cons)) le_call)) (VE.b (lo (ve_g tk rfl G__law_by_names hr (by decide) rfl (loA (va_cons stbE (lo (ve_var (i := 7) (by decide) rfl (by first | exact .inl rfl | exact .inr (.inl rfl) | exact .inr (.inr rfl))) (le_var _)) (loA (va_cons stbE (lo (ve_var (i := 8) (by decide) rfl (by first | exact .inl rfl | exact .inr (.inl rfl) | exact .inr (.inr rfl))) (le_var _)) (loA (va_cons stbE (lo (ve_var (i := 9) (by decide) rfl (by first | exact .inl rfl | exact .inr (.inl rfl) | exact .inr (.inr rfl))) (le_var _)) (loA va_nil le_nil)) le_cons)) le_cons)) le_cons)) le_call))) le_bin)) le_iter)) (blkOk_by (own := [("_law_told", 11)]) (N := N_law) (sc := defScope (top 106)) (by decide +kernel)) (by decide) (by decide) (fun c => loG (vg_name (i := 11) (by decide) nd rfl (by first | exact .inl rfl | exact .inr rfl)) (lg_nm)) (fun c => loTs vts_nil le_yes) (fun c => lo (ve_g tk_f rfl G__law_same hr (by decide) rfl (loA (va_cons stbE (lo (ve_var (i := 11) (by decide) rfl (by first | exact .inl rfl | exact .inr (.inl rfl) | exact .inr (.inr rfl))) (le_var _)) (loA (va_cons stbE (lo (ve_var (i := 3) (by decide) rfl (by first | exact .inl rfl | exact .inr (.inl rfl) | exact .inr (.inr rfl))) (le_var _)) (loA va_nil le_nil)) le_cons)) le_cons)) le_call)) le_lc))) (loA va_nil le_nil)) le_cons)) le_blt)) le_val)) le_notT) (vss_one (loS (vs_ret (lo (ve_bl) le_c)) ls_ret)) (loSs vss_nil ls_nil)) ls_if) (loSs (vss_cons (loS (vs_for po rfl (loIs (vi_seq (VF.ve (loF (vf_lst (loA (va_cons stbE (lo (ve_non) le_c) (loA (va_cons stbE (lo (ve_int) le_c) (loA (va_cons stbE (lo (ve_str) le_c) (loA (va_cons stbE (lo (ve_bl) le_c) (loA (va_cons stbE (lo (ve_var (i := 8) (by decide) rfl (by first | exact .inl rfl | exact .inr (.inl rfl) | exact .inr (.inr rfl))) (le_var _)) (loA (va_cons stbE (lo (ve_str) le_c) (loA va_nil le_nil)) le_cons)) le_cons)) le_cons)) le_cons)) le_cons)) le_cons)) le_lst))) le_iter) (loG (vg_name (i := 4) (by decide) nd rfl (by first | exact .inl rfl | exact .inr rfl)) (lg_nm)) ((show VSs _ _ _ _ _ _ (upS (b_law_1)) from loSs (vss_cons (loS (vs_if (loT (vt_not (loT (vt_val (lo (ve_g tk rfl G__law_same hr (by decide) rfl (loA (va_cons stbE (lo (ve_tried U__law_refused rfl TB0 rfl hT0 hU0 hr (k := 11) (by decide) (LamX.lamS_by (sc := defScope (top 106)) (by decide +kernel)) rfl (by intros; rfl) (fun A outer s H E f c' hr => have tk := lam_tk (A := A) (outer := outer) (s := s) (H := H) (E := E) (f := f) (c' := c'); lo (ve_g tk rfl G_in_place hr (by decide) rfl (loA (va_cons stbE (lo (ve_var (i := 7) (by decide) rfl (by first | exact .inl rfl | exact .inr (.inl rfl) | exact .inr (.inr rfl))) (le_var _)) (loA (va_cons stbE (lo (ve_var (i := 8) (by decide) rfl (by first | exact .inl rfl | exact .inr (.inl rfl) | exact .inr (.inr rfl))) (le_var _)) (loA (va_cons stbE (lo (ve_var (i := 4) (by decide) rfl (by first | exact .inl rfl | exact .inr (.inl rfl) | exact .inr (.inr rfl))) (le_var _)) (loA (va_cons stbE (lo (ve_non) le_c) (loA va_nil le_nil)) le_cons)) le_cons)) le_cons)) le_cons)) le_call)) le_tried) (loA (va_cons stbE (lo (ve_tup (loA (va_cons stbE (lo (ve_str) le_c) (loA (va_cons stbE (lo (ve_var (i := 4) (by decide) rfl (by first | exact .inl rfl | exact .inr (.inl rfl) | exact .inr (.inr rfl))) (le_var _)) (loA va_nil le_nil)) le_cons)) le_cons)) le_tup) (loA va_nil le_nil)) le_cons)) le_cons)) le_call)) le_val)) le_notT) (vss_one (loS (vs_ret (lo (ve_bl) le_c)) ls_ret)) (loSs vss_nil ls_nil)) ls_if) (vss_one (loS (vs_if (loT (vt_not (loT (vt_val (lo (ve_g tk rfl G__law_same hr (by decide) rfl (loA (va_cons stbE (lo (ve_tried U__law_refused rfl TB0 rfl hT0 hU0 hr (k := 11) (by decide) (LamX.lamS_by (sc := defScope (top 106)) (by decide +kernel)) rfl (by intros; rfl) (fun A outer s H E f c' hr => have tk := lam_tk (A := A) (outer := outer) (s := s) (H := H) (E := E) (f := f) (c' := c'); lo (ve_g tk rfl G_in_place hr (by decide) rfl (loA (va_cons stbE (lo (ve_var (i := 7) (by decide) rfl (by first | exact .inl rfl | exact .inr (.inl rfl) | exact .inr (.inr rfl))) (le_var _)) (loA (va_cons stbE (lo (ve_var (i := 8) (by decide) rfl (by first | exact .inl rfl | exact .inr (.inl rfl) | exact .inr (.inr rfl))) (le_var _)) (loA (va_cons stbE (lo (ve_sub (Room.u hr) (VE.b (lo (ve_var (i := 8) (by decide) rfl (by first | exact .inl rfl | exact .inr (.inl rfl) | exact .inr (.inr rfl))) (le_var _))) (VE.b (lo (ve_int) le_c)) (fun _ _ => rfl)) le_bin) (loA (va_cons stbE (lo (ve_var (i := 4) (by decide) rfl (by first | exact .inl rfl | exact .inr (.inl rfl) | exact .inr (.inr rfl))) (le_var _)) (loA va_nil le_nil)) le_cons)) le_cons)) le_cons)) le_cons)) le_call)) le_tried) (loA (va_cons stbE (lo (ve_tup (loA (va_cons stbE (lo (ve_str) le_c) (loA (va_cons stbE (lo (ve_var (i := 4) (by decide) rfl (by first | exact .inl rfl | exact .inr (.inl rfl) | exact .inr (.inr rfl))) (le_var _)) (loA va_nil le_nil)) le_cons)) le_cons)) le_tup) (loA va_nil le_nil)) le_cons)) le_cons)) le_call)) le_val)) le_notT) (vss_one (loS (vs_ret (lo (ve_bl) le_c)) ls_ret)) (loSs vss_nil ls_nil)) ls_if))) ls_seq))) ls_for) (loSs (vss_cons (loS (vs_if (loT (vt_not (loT (vt_val (lo (ve_g tk rfl G__law_same hr (by decide) rfl (loA (va_cons stbE (lo (ve_tried U__law_refused rfl TB0 rfl hT0 hU0 hr (k := 11) (by decide) (LamX.lamS_by (sc := defScope (top 106)) (by decide +kernel)) rfl (by intros; rfl) (fun A outer s H E f c' hr => have tk := lam_tk (A := A) (outer := outer) (s := s) (H := H) (E := E) (f := f) (c' := c'); lo (ve_g tk rfl G_in_place hr (by decide) rfl (loA (va_cons stbE (lo (ve_var (i := 7) (by decide) rfl (by first | exact .inl rfl | exact .inr (.inl rfl) | exact .inr (.inr rfl))) (le_var _)) (loA (va_cons stbE (lo (ve_slice (VE.b (lo (ve_var (i := 8) (by decide) rfl (by first | exact .inl rfl | exact .inr (.inl rfl) | exact .inr (.inr rfl))) (le_var _))) (loO (vo_some (VE.b (lo (ve_int) le_c))) le_some) (loO vo_none le_none)) le_sl) (loA (va_cons stbE (lo (ve_sub (Room.u hr) (VE.b (lo (ve_var (i := 8) (by decide) rfl (by first | exact .inl rfl | exact .inr (.inl rfl) | exact .inr (.inr rfl))) (le_var _))) (VE.b (lo (ve_int) le_c)) (fun _ _ => rfl)) le_bin) (loA (va_cons stbE (lo (ve_non) le_c) (loA va_nil le_nil)) le_cons)) le_cons)) le_cons)) le_cons)) le_call)) le_tried) (loA (va_cons stbE (lo (ve_tup (loA (va_cons stbE (lo (ve_str) le_c) (loA (va_cons stbE (lo (ve_sub (Room.u hr) (VE.b (lo (ve_var (i := 8) (by decide) rfl (by first | exact .inl rfl | exact .inr (.inl rfl) | exact .inr (.inr rfl))) (le_var _))) (VE.b (lo (ve_int) le_c)) (fun _ _ => rfl)) le_bin) (loA va_nil le_nil)) le_cons)) le_cons)) le_tup) (loA va_nil le_nil)) le_cons)) le_cons)) le_call)) le_val)) le_notT) (vss_one (loS (vs_ret (lo (ve_bl) le_c)) ls_ret)) (loSs vss_nil ls_nil)) ls_if) (loSs (vss_cons (loS (vs_for po rfl (loIs (vi_seq (VF.ve (loF (vf_lst (loA (va_cons stbE (lo (ve_neg (VE.b (lo (ve_int) le_c))) le_neg) (loA (va_cons stbE (lo (ve_callB cd_len rfl f_len boot_len (loA (va_cons stbB (VE.b (lo (ve_var (i := 6) (by decide) rfl (by first | exact .inl rfl | exact .inr (.inl rfl) | exact .inr (.inr rfl))) (le_var _))) (loA va_nil le_nil)) le_cons)) le_blt) (loA (va_cons stbE (lo (ve_non) le_c) (loA (va_cons stbE (lo (ve_str) le_c) (loA (va_cons stbE (lo (ve_bl) le_c) (loA (va_cons stbE (lo (ve_tup (loA (va_cons stbE (lo (ve_int) le_c) (loA va_nil le_nil)) le_cons)) le_tup) (loA (va_cons stbE (lo (ve_bin od_pow (VE.b (lo (ve_int) le_c)) (VE.b (lo (ve_int) le_c))) le_bin) (loA va_nil le_nil)) le_cons)) le_cons)) le_cons)) le_cons)) le_cons)) le_cons)) le_cons)) le_lst))) le_iter) (loG (vg_name (i := 4) (by decide) nd rfl (by first | exact .inl rfl | exact .inr rfl)) (lg_nm)) ((show VSs _ _ _ _ _ _ (upS (b_law_2)) from vss_one (loS (vs_if (loT (vt_not (loT (vt_val (lo (ve_g tk rfl G__law_same hr (by decide) rfl (loA (va_cons stbE (lo (ve_tried U__law_refused rfl TB0 rfl hT0 hU0 hr (k := 11) (by decide) (LamX.lamS_by (sc := defScope (top 106)) (by decide +kernel)) rfl (by intros; rfl) (fun A outer s H E f c' hr => have tk := lam_tk (A := A) (outer := outer) (s := s) (H := H) (E := E) (f := f) (c' := c'); lo (ve_g tk rfl G_least_most hr (by decide) rfl (loA (va_cons stbE (lo (ve_var (i := 7) (by decide) rfl (by first | exact .inl rfl | exact .inr (.inl rfl) | exact .inr (.inr rfl))) (le_var _)) (loA (va_cons stbE (lo (ve_var (i := 4) (by decide) rfl (by first | exact .inl rfl | exact .inr (.inl rfl) | exact .inr (.inr rfl))) (le_var _)) (loA (va_cons stbE (lo (ve_var (i := 9) (by decide) rfl (by first | exact .inl rfl | exact .inr (.inl rfl) | exact .inr (.inr rfl))) (le_var _)) (loA va_nil le_nil)) le_cons)) le_cons)) le_cons)) le_call)) le_tried) (loA (va_cons stbE (lo (ve_tup (loA (va_cons stbE (lo (ve_str) le_c) (loA (va_cons stbE (lo (ve_var (i := 4) (by decide) rfl (by first | exact .inl rfl | exact .inr (.inl rfl) | exact .inr (.inr rfl))) (le_var _)) (loA va_nil le_nil)) le_cons)) le_cons)) le_tup) (loA va_nil le_nil)) le_cons)) le_cons)) le_call)) le_val)) le_notT) (vss_one (loS (vs_ret (lo (ve_bl) le_c)) ls_ret)) (loSs vss_nil ls_nil)) ls_if)))) ls_for) (vss_one (loS (vs_if (VW.t (loW (vw_and (loT (vt_cmp (od_ne (Room.u64 hr)) (VE.b (lo (ve_var (i := 6) (by decide) rfl (by first | exact .inl rfl | exact .inr (.inl rfl) | exact .inr (.inr rfl))) (le_var _))) (VE.b (VF.ve (loF (vf_lst (loA va_nil le_nil)) le_lst))) (nomark _)) le_binT) (vw_and1 (loT (vt_not (loT (vt_val (lo (ve_g tk rfl G__law_same hr (by decide) rfl (loA (va_cons stbE (lo (ve_tried U__law_refused rfl TB0 rfl hT0 hU0 hr (k := 11) (by decide) (LamX.lamS_by (sc := defScope (top 106)) (by decide +kernel)) rfl (by intros; rfl) (fun A outer s H E f c' hr => have tk := lam_tk (A := A) (outer := outer) (s := s) (H := H) (E := E) (f := f) (c' := c'); lo (ve_g tk rfl G_least_most hr (by decide) rfl (loA (va_cons stbE (lo (ve_var (i := 7) (by decide) rfl (by first | exact .inl rfl | exact .inr (.inl rfl) | exact .inr (.inr rfl))) (le_var _)) (loA (va_cons stbE (lo (ve_int) le_c) (loA (va_cons stbE (lo (ve_var (i := 9) (by decide) rfl (by first | exact .inl rfl | exact .inr (.inl rfl) | exact .inr (.inr rfl))) (le_var _)) (loA va_nil le_nil)) le_cons)) le_cons)) le_cons)) le_call)) le_tried) (loA (va_cons stbE (lo (ve_var (i := 3) (by decide) rfl (by first | exact .inl rfl | exact .inr (.inl rfl) | exact .inr (.inr rfl))) (le_var _)) (loA va_nil le_nil)) le_cons)) le_cons)) le_call)) le_val)) le_notT))) le_andT)) (vss_one (loS (vs_ret (lo (ve_bl) le_c)) ls_ret)) (loSs vss_nil ls_nil)) ls_if))) ls_seq)) ls_seq)) ls_seq)) ls_seq)) ls_seq))))) (vss_one (loS (vs_ret (lo (ve_bl) le_c)) ls_ret))
end DL.K34
namespace DL
open PySem PySem.Spec PyProof.Rows L2 LamX
variable [TabC]
section
variable {P : Program} {w : World} {K : PySem.W.Frag} {mg : Str → Option Value} {base : Heap} {x : Str} {params : Arguments} {body : List Stmt} {scope : Scope} {dvs : List V} {kws : List (Str × V)} {f : Addr} {fd : FuncData}
/-- a def whose arguments are all given -/
theorem gfnB {N ps : List Str} {k : Nat} {sp : FSp} {m : SM} {O' : List Nat} (F : FunD K x x params body scope dvs kws f fd) (hg : mg x = some (.ref f)) (Sc : FnScope N ps scope) (hb : Binds K fd ps [])
    (B : Body P w K mg base N x scope k [] O' body m) (hm : Meets ps.length N sp m) : GFn P w K mg base x (k + 1) ps (lift K ps.length sp) :=
  ⟨f, fd, hg, F.kp, hb, dfn F Sc (fun cdv A outer s H E hr => B f cdv A outer s H E hr) hm⟩
/-- a def that is never run -/
theorem gfn_never {ps : List Str} {k n : Nat} {sp : FSp} (F : FunD K x x params body scope dvs kws f fd) (hg : mg x = some (.ref f)) (hb : Binds K fd ps []) (hn : ∀ ds n Q xq, ¬ sp.run ds n Q xq) : GFn P w K mg base x k ps (lift K n sp) :=
  ⟨f, fd, hg, F.kp, hb, ⟨fun vs H Q E ⟨_, _, _, _, _, _, _, _, _, _, h⟩ => (hn _ _ _ _ h).elim, fun _ _ _ _ _ _ _ _ _ _ _ _ _ ⟨_, _, _, _, _, _, _, _, _, _, h⟩ => (hn _ _ _ _ h).elim⟩⟩
end
end DL
namespace DL
open PySem PySem.Spec PyProof.Rows L2
variable [TabC]
/-! ### sorted by the names -/
def get {α : Type} [Inhabited α] (l : List (Str × α)) (x : Str) : α := (l.lookup x).getD default
def sortK {α : Type} [Inhabited α] (l : List (Str × α)) : List (Str × α) := (rise (keys l)).map fun x => (x, get l x)
theorem look_tab {α : Type} {f : Str → α} {y : Str} : ∀ xs : List Str, (xs.map fun x => (x, f x)).lookup y = if y ∈ xs then some (f y) else none
  | [] => rfl
  | x :: xs => by
    rw [List.map_cons, List.lookup_cons]
    by_cases e : y = x
    · subst e
      simp
    · have e2 : (y == x) = false := by simpa using e
      rw [e2, look_tab xs]
      simp [e]
section
variable {α β : Type} [Inhabited α] [Inhabited β]
theorem get_of {l : List (Str × α)} {x : Str} {a : α} (h : l.lookup x = some a) : get l x = a := by
  unfold get
  rw [h]
  rfl
theorem look_get {l : List (Str × α)} {x : Str} (h : x ∈ keys l) : l.lookup x = some (get l x) := by
  obtain ⟨a, e⟩ := look_mem h
  rw [get_of e, e]
theorem keys_sort (l : List (Str × α)) : keys (sortK l) = rise (keys l) := by
  unfold sortK keys
  rw [List.map_map]
  show (rise _).map (fun x => x) = _
  rw [List.map_id']
theorem mem_rise {xs : List Str} {x : Str} : x ∈ rise xs ↔ x ∈ xs := (rise_perm xs).mem_iff
theorem look_sort (l : List (Str × α)) (x : Str) : (sortK l).lookup x = l.lookup x := by
  unfold sortK
  rw [look_tab]
  by_cases h : x ∈ keys l
  · rw [if_pos (mem_rise.mpr h), look_get h]
  · rw [if_neg fun z => h (mem_rise.mp z), look_none h]
theorem get_sort (l : List (Str × α)) (x : Str) : get (sortK l) x = get l x := by
  unfold get
  rw [look_sort]
theorem len_sort (l : List (Str × α)) : (sortK l).length = l.length := by
  unfold sortK
  rw [List.length_map, rise_len, List.length_map]
theorem mem_keys {l : List (Str × α)} {x : Str} : x ∈ keys (sortK l) ↔ x ∈ keys l := by rw [keys_sort]; exact mem_rise
theorem nd_sort {l : List (Str × α)} (h : (keys l).Nodup) : (keys (sortK l)).Nodup := by
  rw [keys_sort]
  exact (rise_perm _).nodup_iff.mpr h
theorem mem_sort {l : List (Str × α)} (h : (keys l).Nodup) {p : Str × α} : p ∈ sortK l → p ∈ l := fun hp => by
  obtain ⟨x, a⟩ := p
  have := look_of (nd_sort h) hp
  rw [look_sort] at this
  exact look_some this
/-- the values turned -/
def mapV (f : α → β) (l : List (Str × α)) : List (Str × β) := l.map fun p => (p.1, f p.2)
theorem keys_mapV (f : α → β) (l : List (Str × α)) : keys (mapV f l) = keys l := by
  unfold mapV keys
  rw [List.map_map]
  rfl
theorem look_mapV (f : α → β) (x : Str) : ∀ l : List (Str × α), (mapV f l).lookup x = (l.lookup x).map f
  | [] => rfl
  | (y, a) :: l => by
    unfold mapV
    rw [List.map_cons, List.lookup_cons, List.lookup_cons]
    cases x == y with
    | true => rfl
    | false => exact look_mapV f x l
theorem get_mapV {f : α → β} {l : List (Str × α)} {x : Str} (h : x ∈ keys l) : get (mapV f l) x = f (get l x) := by
  refine get_of ?_
  rw [look_mapV, look_get h]
  rfl
theorem sort_mapV (f : α → β) (l : List (Str × α)) : sortK (mapV f l) = mapV f (sortK l) := by
  unfold sortK
  rw [keys_mapV]
  conv => rhs; unfold mapV
  rw [List.map_map]
  refine List.map_congr_left fun x hx => ?_
  show (x, get (mapV f l) x) = (x, f (get l x))
  rw [get_mapV (mem_rise.mp hx)]
theorem mapD_mapV {f : α → β} {g : β → D} {l : List (Str × α)} : mapD g (mapV f l) = mapD (fun a => g (f a)) l := by
  unfold mapD mapV
  rw [List.map_map]
  rfl
end
/-! ### small answers -/
theorem v_is_list_tup {xs : List D} : f_is_list [.tup xs] = .ok (.bl true) := rfl
theorem v_is_list_lst {xs : List D} : f_is_list [.lst xs] = .ok (.bl true) := rfl
theorem v_is_list_str {x : Str} : f_is_list [.str x] = .ok (.bl false) := rfl
theorem v_is_integer {i : Int} : f_is_integer [.int i] = .ok (.bl true) := rfl
theorem v_is_among {α : Type} {f : α → D} {l : List (Str × α)} {x : Str} (h : x ∈ keys l) : f_is_among [.str x, .dic (mapD f l)] = .ok (.bl true) := by
  refine runB_rt (retE (andT rfl (binE rfl rfl ?_)))
  rw [dIn_map, look_isSome, decide_eq_true h]
theorem v_bounds {b : Int × Int} (h : 1 ≤ b.1) (h2 : b.1 ≤ b.2) : f_are_bounds [bD b] = .ok (.bl true) := by
  have e : f_are_bounds [bD b] = if decide (1 ≤ b.1) = true then .ok (.bl (decide (b.1 ≤ b.2))) else .ok (.bl false) := by
    by_cases h : 1 ≤ b.1
    · rw [decide_eq_true h]
      refine runB_rt (seqN rfl (retE ?_))
      unfold fChain
      show (if decide (1 ≤ b.1) = true then _ else _) = _
      rw [decide_eq_true h]
      rfl
    · exact absurd ‹1 ≤ b.1› h
  rw [e, decide_eq_true h, decide_eq_true h2]
  rfl
theorem v_is_anchor {α : Type} {f : α → D} {l : List (Str × α)} {a : Str} (hk : ∀ x ∈ keys l, Good x) (h : a = "clock" ∨ a ∈ keys l) : f_is_anchor [.str a, .dic (mapD f l)] = .ok (.bl true) := by
  by_cases e : a = "clock"
  · subst e
    exact runB_rt (retE (orT (binE rfl rfl (dEq_str clock_ok clock_ok))))
  · have hm := h.resolve_left e
    have ho := (hk a hm).ok
    refine runB_rt (retE (orF (binE rfl rfl ?_) (binE rfl (bltE rfl (dList_map f l)) ?_)))
    · rw [dEq_str ho clock_ok]; simp [e]
    · rw [dIn_strs ho fun x hx => (hk x hx).ok, decide_eq_true hm]
theorem v_is_book_row {α : Type} {f : α → D} {l : List (Str × α)} {r : Str × Int} (hk : ∀ x ∈ keys l, Good x) (h : r.1 = "clock" ∨ r.1 ∈ keys l) (hw : 0 ≤ r.2) : f_is_book_row [rD r, .dic (mapD f l)] = .ok (.bl true) := by
  refine runB_rt (seqN (ifsF (orTF rfl (orTF rfl (notTE (valE (callE (ds := [.str r.1, .dic (mapD f l)]) rfl rfl (v_is_anchor hk h)))))) rfl) (retE (andT rfl (binE rfl rfl ?_))))
  show some (D.bl (decide (0 ≤ r.2))) = _
  rw [decide_eq_true hw]
/-! ### rounds -/
theorem v_check_rounds {l : Anc} {rk : Str → Nat} (A : Acy l rk) : f_check_rounds [.dic (mapD .str l)] = .ok .non := by
  have hl := A.len
  obtain ⟨s', e, x, rfl⟩ := for_inv (g := fgNm 1) (b := b_check_rounds_1) (fun s => ∃ x, s = [some (.dic (mapD .str l)), x]) ((rise (keys l)).map .str) [some (.dic (mapD .str l)), none] ⟨_, rfl⟩ (fun d hd s ⟨x, hs⟩ => by
    subst hs
    obtain ⟨y, hy, rfl⟩ := List.mem_map.mp hd
    have hy := mem_rise.mp hy
    refine ⟨_, rfl, _, ifsF (binTE (x := .str y) rfl (callE (ds := [.dic (mapD .str l), .str y]) rfl rfl (v_way_up A hy)) ?_) rfl, _, rfl⟩
    rw [dIn_strs (A.good y hy).ok fun z hz => (A.good z (chain_rk A y hy z hz).1).ok, decide_eq_false fun z => by have := (chain_rk A y hy y z).2; omega])
  exact runB_nx (forE (ds := (rise (keys l)).map .str) (iterE (callE (ds := [txs (keys l)]) (consE (bltE rfl (dList_map _ _)) rfl) rfl (v_rising (by rw [List.length_map]; omega))) rfl) e)
/-! ### books -/
def anc (rs : Row) : Anc := mapV (·.1) rs
structure BookOk (rs : Row) (rk : Str → Nat) : Prop where
  acy : Acy (anc rs) rk
  wait : ∀ r ∈ rs, 0 ≤ r.2.2
  len : rs.length ≤ 15
theorem keys_anc (rs : Row) : keys (anc rs) = keys rs := keys_mapV _ _
theorem len_anc (rs : Row) : (anc rs).length = rs.length := by unfold anc mapV; rw [List.length_map]
theorem up_congr {l l' : Anc} (h : ∀ x, l.lookup x = l'.lookup x) : ∀ k x, upN l k x = upN l' k x
  | 0, _ => rfl
  | k + 1, x => by
    rw [upN, upN, h x]
    cases l'.lookup x with
    | none => rfl
    | some a => simp only [up_congr h k a]
theorem Acy.sort {l : Anc} {rk : Str → Nat} (A : Acy l rk) : Acy (sortK l) rk :=
  ⟨nd_sort A.nd, fun x hx => A.good x (mem_keys.mp hx), fun x a e => by
    rw [look_sort] at e
    exact (A.up x a e).imp id fun z => ⟨mem_keys.mpr z.1, z.2⟩, fun x hx => by rw [len_sort]; exact A.bd x (mem_keys.mp hx), by rw [len_sort]; exact A.len⟩
theorem chain_sort (l : Anc) (x : Str) : chain (sortK l) x = chain l x := by
  unfold chain
  rw [len_sort]
  exact up_congr (look_sort l) _ _
theorem BookOk.sort {rs : Row} {rk : Str → Nat} (B : BookOk rs rk) : BookOk (sortK rs) rk := by
  refine ⟨?_, fun r hr => B.wait r (mem_sort (by rw [← keys_anc]; exact B.acy.nd) hr), by rw [len_sort]; exact B.len⟩
  have := B.acy.sort
  unfold anc at this ⊢
  rw [sort_mapV] at this
  exact this
theorem anc_sort (rs : Row) : anc (sortK rs) = sortK (anc rs) := (sort_mapV _ _).symm
theorem look_anc (rs : Row) (x : Str) : (anc rs).lookup x = (rs.lookup x).map (·.1) := look_mapV _ _ _
theorem BookOk.row {rs : Row} {rk : Str → Nat} (B : BookOk rs rk) {x : Str} {r : Str × Int} (h : rs.lookup x = some r) : r.1 = "clock" ∨ (r.1 ∈ keys rs ∧ rk r.1 < rk x) := by
  have := B.acy.up x r.1 (by rw [look_anc, h]; rfl)
  rw [keys_anc] at this
  exact this
theorem BookOk.good {rs : Row} {rk : Str → Nat} (B : BookOk rs rk) : ∀ x ∈ keys rs, Good x := by
  have := B.acy.good
  rw [keys_anc] at this
  exact this
theorem BookOk.nd {rs : Row} {rk : Str → Nat} (B : BookOk rs rk) : (keys rs).Nodup := by
  have := B.acy.nd
  rw [keys_anc] at this
  exact this
theorem BookOk.bd {rs : Row} {rk : Str → Nat} (B : BookOk rs rk) : ∀ x ∈ keys rs, rk x < rs.length := by
  have := B.acy.bd
  rw [keys_anc, len_anc] at this
  exact this
theorem v_book {rs : Row} {rk : Str → Nat} (B : BookOk rs rk) : f_Book___init__ [.dic (mapD rD rs)] = .ok (bookD (sortK rs)) := by
  have hl := B.len
  obtain ⟨s', e, x2, x3, rfl⟩ := for_inv (g := fgTp (fgsCons (fgNm 2) (fgsCons (fgNm 3) fgsNil))) (b := b_Book___init___1) (fun s => ∃ x2 x3, s = [some (.obj "Book" []), some (.dic (mapD rD rs)), x2, x3]) (itemsD (mapD rD rs)) [some (.obj "Book" []), some (.dic (mapD rD rs)), none, none] ⟨_, _, rfl⟩ (fun d hd s ⟨x2, x3, hs⟩ => by
    subst hs
    rw [items_map] at hd
    obtain ⟨p, hp, rfl⟩ := List.mem_map.mp hd
    have hk : p.1 ∈ keys rs := List.mem_map.mpr ⟨p, hp, rfl⟩
    refine ⟨_, rfl, _, ifsF (orTF (notTE (valE (callE (ds := [.str p.1]) rfl rfl (B.good _ hk).nm))) (notTE (valE (callE (ds := [rD p.2, .dic (mapD rD rs)]) rfl rfl (v_is_book_row B.good ?_ (B.wait p hp)))))) rfl, _, _, rfl⟩
    exact (B.row (look_of B.nd hp)).imp id (·.1))
  have ea : fDcD (fun s => (s[1]?).join) itemsD [2, 3] (fgTp (fgsCons (fgNm 2) (fgsCons (fgNm 3) fgsNil))) fYes (fVar 2) (fBin dIdx (fVar 3) (fC (.int 0))) [some (.obj "Book" []), some (.dic (mapD rD rs)), x2, x3] = .ok (.dic (mapD .str (anc rs))) := by
    refine dcDE (kvs := mapD rD rs) rfl (by rw [items_map, List.length_map]; unfold LIM; omega) ?_
    rw [items_map]
    exact dc_map (fun p : Str × Str × Int => .tup [.str p.1, rD p.2]) (·.1) (fun p => p.2.1) D.str rs [] (by rw [List.map_nil, List.nil_append]; exact B.nd) fun d hd => ⟨_, rfl, rfl, rfl⟩
  have ed : fDc (fIter (fCall 1 f_rising [] (fCons (fBlt dList (fCons (fVar 1) fNil)) fNil))) [2] (fgNm 2) fYes (fVar 2) (fBlt dTuple (fCons (fBin dIdx (fVar 1) (fVar 2)) fNil)) [some (.obj "Book" []), some (.dic (mapD rD rs)), x2, x3] = .ok (.dic (mapD rD (sortK rs))) := by
    refine dcE (ds := (rise (keys rs)).map .str) (iterE (callE (ds := [txs (keys rs)]) (consE (bltE rfl (dList_map _ _)) rfl) rfl (v_rising (by rw [List.length_map]; omega))) rfl) (by rw [List.length_map, rise_len, List.length_map]; unfold LIM; omega) ?_
    refine dc_map D.str id (fun x => get rs x) rD (rise (keys rs)) [] (by rw [List.map_nil, List.nil_append, List.map_id]; exact (rise_perm _).nodup_iff.mpr B.nd) fun d hd => ⟨_, rfl, rfl, bltE (consE (binE rfl rfl (by rw [dIdx_map, look_get (mem_rise.mp hd)]; rfl)) rfl) rfl⟩
  refine runI_nx (seqN (forDE (kvs := mapD rD rs) rfl e) (seqN (dropE (callE (ds := [.dic (mapD .str (anc rs))]) (consE ea rfl) rfl (v_check_rounds B.acy))) (fldSE ed rfl (by decide)))) rfl
theorem v_anchors_of {rs : Row} (hn : (keys rs).Nodup) (hl : rs.length ≤ 1000) : f_anchors_of [bookD rs] = .ok (.dic (mapD .str (anc rs))) := by
  refine runB_rt (retE (dcDE (kvs := mapD rD rs) rfl (by rw [items_map, List.length_map]; unfold LIM; omega) ?_))
  rw [items_map]
  exact dc_map (fun p : Str × Str × Int => .tup [.str p.1, rD p.2]) (·.1) (fun p => p.2.1) D.str rs [] (by rw [List.map_nil, List.nil_append]; exact hn) fun d hd => ⟨_, rfl, rfl, rfl⟩
theorem v_getitem {rs : Row} {x : Str} (hx : x ∈ keys rs) : f_Book___getitem__ [bookD rs, .str x] = .ok (rD (get rs x)) := by
  refine runB_rt (seqN (dropE (d := .non) (callE (ds := [.str x, .dic (mapD rD rs)]) rfl rfl (runB_nx (ifsF (notTE (valE (callE (ds := [.str x, .dic (mapD rD rs)]) rfl rfl (v_is_among hx)))) rfl)))) (retE (binE rfl rfl ?_)))
  rw [dIdx_map, look_get hx]
  rfl
def addN (l : Row) : Nat → Str → Int
  | 0, _ => 0
  | k + 1, x => if (get l x).1 = "clock" then (get l x).2 else (get l x).2 + addN l k (get l x).1
def added (l : Row) (x : Str) : Int := addN l l.length x
theorem add_more {l : Row} {rk : Str → Nat} (B : BookOk l rk) : ∀ (k : Nat) (x : Str), x ∈ keys l → rk x < k → addN l k x = addN l (k + 1) x
  | 0, x, _, h => by omega
  | k + 1, x, hx, h => by
    rw [addN]
    conv => rhs; rw [addN]
    by_cases e : (get l x).1 = "clock"
    · rw [if_pos e, if_pos e]
    · have := (B.row (look_get hx)).resolve_left e
      rw [if_neg e, if_neg e, add_more B k _ this.1 (by omega)]
theorem add_all {l : Row} {rk : Str → Nat} (B : BookOk l rk) {x : Str} (hx : x ∈ keys l) (k : Nat) (h : rk x < k) : ∀ j, addN l (k + j) x = addN l k x
  | 0 => rfl
  | j + 1 => by rw [← Nat.add_assoc, ← add_more B (k + j) x hx (by omega), add_all B hx k h j]
theorem added_eq {l : Row} {rk : Str → Nat} (B : BookOk l rk) {x : Str} (hx : x ∈ keys l) : added l x = if (get l x).1 = "clock" then (get l x).2 else (get l x).2 + added l (get l x).1 := by
  have e : added l x = addN l (l.length + 1) x := add_more B _ x hx (B.bd x hx)
  rw [e, addN]
  rfl
theorem v_added_go {rs : Row} {rk : Str → Nat} (B : BookOk rs rk) : ∀ (k : Nat) (x : Str), x ∈ keys rs → rk x < k → r_Book_added k [bookD rs, .str x] = .ok (.int (addN rs k x))
  | 0, x, _, h => by omega
  | k + 1, x, hx, h => by
    rw [r_Book_added, addN]
    have ho : sOk (get rs x).1 := by
      rcases B.row (look_get hx) with z | z
      · rw [z]; exact clock_ok
      · exact (B.good _ z.1).ok
    refine runB_rt (seqN (asgE (itemE (d := .str x) rfl rfl (v_getitem hx)) rfl) (retE ?_))
    by_cases e : (get rs x).1 = "clock"
    · rw [if_pos e]
      refine iteT (binTE rfl rfl ?_) rfl
      rw [e]
      exact dEq_str clock_ok clock_ok
    · have hr := (B.row (look_get hx)).resolve_left e
      rw [if_neg e]
      refine iteF (binTE rfl rfl ?_) (binE rfl (methE rfl rfl (ds := [.str (get rs x).1]) rfl rfl (v_added_go B k _ hr.1 (by omega))) rfl)
      rw [dEq_str ho clock_ok]
      simp [e]
theorem v_added {rs : Row} {rk : Str → Nat} (B : BookOk rs rk) {x : Str} (hx : x ∈ keys rs) : f_Book_added [bookD rs, .str x] = .ok (.int (added rs x)) := by
  have h := B.bd x hx
  have hl := B.len
  unfold f_Book_added
  rw [v_added_go B 20 x hx (by omega), added]
  obtain ⟨j, hj⟩ : ∃ j, 20 = rs.length + j := ⟨20 - rs.length, by omega⟩
  rw [hj, add_all B hx _ h]
def sumsR (rs : Row) : List (Str × Int) := (keys rs).map fun x => (x, added rs x)
theorem v_sums {rs : Row} {rk : Str → Nat} (B : BookOk rs rk) : f_Book_sums [bookD rs] = .ok (.dic (mapD .int (sumsR rs))) := by
  have hl := B.len
  refine runB_rt (retE (dcDE (kvs := mapD rD rs) rfl (by rw [keys_map, List.length_map, List.length_map]; unfold LIM; omega) ?_))
  rw [keys_map]
  exact dc_map D.str id (fun x => added rs x) D.int (keys rs) [] (by rw [List.map_nil, List.nil_append, List.map_id]; exact B.nd) fun d hd => ⟨_, rfl, rfl, methE rfl rfl (ds := [.str d]) rfl rfl (v_added B hd)⟩
end DL
namespace DL
open PySem PySem.Spec PyProof.Rows L2
variable [TabC]
/-! ### moments and wishes -/
def Mo.isClock : Mo → Bool
  | .clock => true
  | _ => false
theorem start_ok : sOk "start" := by decide +kernel
theorem done_ok : sOk "done" := by decide +kernel
theorem Mo.okD {ks : List Str} (hk : ∀ x ∈ ks, Good x) {m : Mo} (h : m.ok ks) : OkN 1 m.d := by
  cases m with
  | clock => exact .str clock_ok
  | start x =>
    refine .tup fun d hd => ?_
    rcases List.mem_cons.mp hd with z | z
    · subst z; exact .str start_ok
    · have z := List.mem_singleton.mp z; subst z; exact .str (hk x h).ok
  | done x =>
    refine .tup fun d hd => ?_
    rcases List.mem_cons.mp hd with z | z
    · subst z; exact .str done_ok
    · have z := List.mem_singleton.mp z; subst z; exact .str (hk x h).ok
theorem Mo.eqClock {ks : List Str} (hk : ∀ x ∈ ks, Good x) {m : Mo} (h : m.ok ks) : dEq m.d (.str "clock") = some (.bl m.isClock) := by
  rw [dEq_ok ((Mo.okD hk h).ok (by decide)) (okD_str clock_ok)]
  cases m with
  | clock => rw [Mo.d, pyEq_str]; simp [Mo.isClock]
  | start x => rfl
  | done x => rfl
theorem v_frozen_m (k : Nat) (m : Mo) : r_frozen (k + 2) [m.d] = .ok m.d := by
  cases m <;> rfl
theorem v_frozen_w (k : Nat) (w : Wi) : r_frozen (k + 3) [w.d] = .ok w.d := by
  obtain ⟨one, other, most⟩ := w
  cases one <;> cases other <;> rfl
theorem v_frozen {m : Mo} : f_frozen [m.d] = .ok m.d := v_frozen_m 4 m
theorem v_frozenW {w : Wi} : f_frozen [w.d] = .ok w.d := v_frozen_w 3 w
theorem v_is_moment {α : Type} {f : α → D} {l : List (Str × α)} {m : Mo} (h : m.ok (keys l)) : f_is_moment [m.d, .dic (mapD f l)] = .ok (.bl true) := by
  cases m with
  | clock => exact runB_rt (seqR (ifsT rfl (retE (andT rfl (binE rfl rfl (dEq_str clock_ok clock_ok))))))
  | start x => exact runB_rt (seqN (ifsF rfl rfl) (retE (andT rfl (andT rfl (callE (ds := [.str x, .dic (mapD f l)]) rfl rfl (v_is_among h))))))
  | done x => exact runB_rt (seqN (ifsF rfl rfl) (retE (andT rfl (andT rfl (callE (ds := [.str x, .dic (mapD f l)]) rfl rfl (v_is_among h))))))
theorem v_is_wish {α : Type} {f : α → D} {l : List (Str × α)} {w : Wi} (h : w.ok (keys l)) : f_is_wish [w.d, .dic (mapD f l)] = .ok (.bl true) :=
  runB_rt (seqN (ifsF rfl rfl) (retE (andT (callE (ds := [w.one.d, .dic (mapD f l)]) rfl rfl (v_is_moment h.1)) (andT (callE (ds := [w.other.d, .dic (mapD f l)]) rfl rfl (v_is_moment h.2)) rfl))))
theorem pairs_mem {d : D} : ∀ {k : Nat} {ds : List D}, d ∈ pairsD k ds → ∃ (j : Nat) (x : D), d = .tup [.int (j : Nat), x] ∧ x ∈ ds ∧ k ≤ j ∧ ds[j - k]? = some x
  | k, x :: ds, h => by
    rw [pairsD] at h
    rcases List.mem_cons.mp h with z | z
    · exact ⟨k, x, z, List.mem_cons_self, Nat.le_refl _, by rw [Nat.sub_self]; rfl⟩
    · obtain ⟨j, y, e, hy, hj, hg⟩ := pairs_mem z
      refine ⟨j, y, e, List.mem_cons_of_mem _ hy, by omega, ?_⟩
      rw [show j - k = j - (k + 1) + 1 by omega, List.getElem?_cons_succ]
      exact hg
/-- a row of things, as a list or a tuple -/
def rowD (tp : Bool) (ds : List D) : D := if tp then .tup ds else .lst ds
theorem row_enum {tp : Bool} {ds : List D} : dSeq (rowD tp ds) = some ds := by cases tp <;> rfl
theorem row_iter {tp : Bool} {ds : List D} : dIter (rowD tp ds) = some ds := by cases tp <;> rfl
theorem v_is_list_row {tp : Bool} {ds : List D} : f_is_list [rowD tp ds] = .ok (.bl true) := by cases tp <;> rfl
theorem enumE {a : FM D} {s : Ev} {d : D} {ds : List D} (h : a s = .ok d) (h2 : dSeq d = some ds) : fEnum a s = .ok (pairsD 0 ds) := by
  unfold fEnum
  rw [h]
  show (ofO (dSeq d)).bind _ = _
  rw [h2]
  rfl
theorem v_checked_wishes {α : Type} {f : α → D} {l : List (Str × α)} {tp : Bool} {ws : List Wi} (h : ∀ w ∈ ws, w.ok (keys l)) (hl : ws.length ≤ 1000) : f_checked_wishes [rowD tp (ws.map Wi.d), .dic (mapD f l)] = .ok (.tup (ws.map Wi.d)) := by
  obtain ⟨s', e, x2, x3, rfl⟩ := for_inv (g := fgTp (fgsCons (fgNm 2) (fgsCons (fgNm 3) fgsNil))) (b := b_checked_wishes_1) (fun s => ∃ x2 x3, s = [some (rowD tp (ws.map Wi.d)), some (.dic (mapD f l)), x2, x3]) (pairsD 0 (ws.map Wi.d)) [some (rowD tp (ws.map Wi.d)), some (.dic (mapD f l)), none, none] ⟨_, _, rfl⟩ (fun d hd s ⟨x2, x3, hs⟩ => by
    subst hs
    obtain ⟨j, x, rfl, hx, _⟩ := pairs_mem hd
    obtain ⟨w, hw, rfl⟩ := List.mem_map.mp hx
    exact ⟨_, rfl, _, ifsF (notTE (valE (callE (ds := [w.d, .dic (mapD f l)]) rfl rfl (v_is_wish (h w hw))))) rfl, _, _, rfl⟩)
  refine runB_rt (seqN (ifsF (notTE (valE (callE (ds := [rowD tp (ws.map Wi.d)]) rfl rfl v_is_list_row))) rfl) (seqN (forE (enumE rfl row_enum) e) (retE (bltE (consE (lcE (iterE rfl row_iter) (by rw [List.length_map]; unfold LIM; omega) (lc_map Wi.d Wi.d ws fun w hw => ⟨_, rfl, callE (ds := [w.d]) rfl rfl v_frozenW⟩)) rfl) rfl))))
/-! ### meals -/
structure DishOk (l : Dis) : Prop where
  nd : (keys l).Nodup
  good : ∀ x ∈ keys l, Good x
  bd : ∀ p ∈ l, 1 ≤ p.2.1 ∧ p.2.1 ≤ p.2.2
  len : l.length ≤ 15
theorem DishOk.sort {l : Dis} (h : DishOk l) : DishOk (sortK l) := ⟨nd_sort h.nd, fun x hx => h.good x (mem_keys.mp hx), fun p hp => h.bd p (mem_sort h.nd hp), by rw [len_sort]; exact h.len⟩
theorem v_meal0 {l : Dis} (B : DishOk l) {tp : Bool} {ws : List Wi} (hw : ∀ w ∈ ws, w.ok (keys l)) (hl : ws.length ≤ 1000) : f_Meal___init__ [.dic (mapD bD l), rowD tp (ws.map Wi.d), .tup []] = .ok (mealD (sortK l) ws []) := by
  have hlen := B.len
  obtain ⟨s', e, x4, x5, x6, x7, rfl⟩ := for_inv (g := fgTp (fgsCons (fgNm 4) (fgsCons (fgNm 5) fgsNil))) (b := b_Meal___init___1) (fun s => ∃ x4 x5 x6 x7, s = [some (.obj "Meal" []), some (.dic (mapD bD l)), some (rowD tp (ws.map Wi.d)), some (.tup []), x4, x5, x6, x7]) (itemsD (mapD bD l)) [some (.obj "Meal" []), some (.dic (mapD bD l)), some (rowD tp (ws.map Wi.d)), some (.tup []), none, none, none, none] ⟨_, _, _, _, rfl⟩ (fun d hd s ⟨x4, x5, x6, x7, hs⟩ => by
    subst hs
    rw [items_map] at hd
    obtain ⟨p, hp, rfl⟩ := List.mem_map.mp hd
    have hk : p.1 ∈ keys l := List.mem_map.mpr ⟨p, hp, rfl⟩
    have hb := B.bd p hp
    exact ⟨_, rfl, _, ifsF (orTF (notTE (valE (callE (ds := [.str p.1]) rfl rfl (B.good _ hk).nm))) (notTE (valE (callE (ds := [bD p.2]) rfl rfl (v_bounds hb.1 hb.2))))) rfl, _, _, _, _, rfl⟩)
  have ed : fDc (fIter (fCall 1 f_rising [] (fCons (fBlt dList (fCons (fVar 1) fNil)) fNil))) [4] (fgNm 4) fYes (fVar 4) (fBlt dTuple (fCons (fBin dIdx (fVar 1) (fVar 4)) fNil)) [some (.obj "Meal" []), some (.dic (mapD bD l)), some (rowD tp (ws.map Wi.d)), some (.tup []), x4, x5, x6, x7] = .ok (.dic (mapD bD (sortK l))) := by
    refine dcE (ds := (rise (keys l)).map .str) (iterE (callE (ds := [txs (keys l)]) (consE (bltE rfl (dList_map _ _)) rfl) rfl (v_rising (by rw [List.length_map]; omega))) rfl) (by rw [List.length_map, rise_len, List.length_map]; unfold LIM; omega) ?_
    refine dc_map D.str id (fun x => get l x) bD (rise (keys l)) [] (by rw [List.map_nil, List.nil_append, List.map_id]; exact (rise_perm _).nodup_iff.mpr B.nd) fun d hd => ⟨_, rfl, rfl, bltE (consE (binE rfl rfl (by rw [dIdx_map, look_get (mem_rise.mp hd)]; rfl)) rfl) rfl⟩
  refine runI_nx (seqN (forDE (kvs := mapD bD l) rfl e) (seqN (fldSE ed rfl (by decide)) (seqN (fldSE (callE (ds := [rowD tp (ws.map Wi.d), .dic (mapD bD (sortK l))]) (consE rfl (consE (fldE rfl rfl) rfl)) rfl (v_checked_wishes (fun w h => ?_) hl)) rfl (show 1 < 1000 by decide)) (seqN (ifsF rfl rfl) (seqN (forE (ds := []) rfl rfl) (fldSE rfl rfl (show 2 < 1000 by decide))))))) rfl
  have := hw w h
  unfold Wi.ok at this ⊢
  rw [keys_sort]
  refine ⟨?_, ?_⟩
  · have h1 := this.1
    cases hm : w.one with
    | clock => trivial
    | start x => rw [hm] at h1; exact mem_rise.mpr h1
    | done x => rw [hm] at h1; exact mem_rise.mpr h1
  · have h1 := this.2
    cases hm : w.other with
    | clock => trivial
    | start x => rw [hm] at h1; exact mem_rise.mpr h1
    | done x => rw [hm] at h1; exact mem_rise.mpr h1
theorem v_check_alike {α β : Type} {f : α → D} {g : β → D} {l : List (Str × α)} {m : List (Str × β)} (hn : (keys l).Nodup) (hp : (keys l).Perm (keys m)) (hl : l.length ≤ 1000) : f_check_alike [.dic (mapD f l), .dic (mapD g m)] = .ok .non := by
  have h1 : l.length = m.length := by have := hp.length_eq; rw [List.length_map, List.length_map] at this; exact this
  refine runB_nx (ifsF ((setNeE (kvs := mapD f l) (more := mapD g m) rfl (by unfold mapD; rw [List.length_map]; omega) rfl (by unfold mapD; rw [List.length_map]; omega)).trans ?_) rfl)
  have : dKeysNe (mapD f l) (mapD g m) = false := by
    unfold dKeysNe
    rw [Bool.not_eq_false', Bool.and_eq_true]
    refine ⟨by unfold mapD; rw [List.length_map, List.length_map, h1]; exact beq_self_eq_true _, ?_⟩
    rw [List.all_eq_true]
    intro p hp'
    unfold mapD at hp'
    obtain ⟨q, hq, rfl⟩ := List.mem_map.mp hp'
    show (lookK (mapD g m) (.inr q.1)).isSome = true
    rw [lookK_map]
    obtain ⟨a, e⟩ := look_mem (hp.subset (List.mem_map.mpr ⟨q, hq, rfl⟩))
    rw [e]
    rfl
  rw [this]
/-! ### ways, what is not shared -/
def wayM (l : Anc) : Mo → List Str
  | .clock => []
  | .start x => chain l x
  | .done x => chain l x ++ [x]
theorem v_way_of {l : Anc} {rk : Str → Nat} (A : Acy l rk) {m : Mo} (h : m.ok (keys l)) : f_way_of [.dic (mapD .str l), m.d] = .ok (txs (wayM l m)) := by
  have hl := A.len
  have ec := Mo.eqClock A.good h
  cases m with
  | clock => exact runB_rt (seqR (ifsT (binTE rfl rfl ec) rfl))
  | start x =>
    refine runB_rt (seqN (ifsF (binTE rfl rfl ec) rfl) (seqN (setE (callE (ds := [.dic (mapD .str l), .str x]) rfl rfl (v_way_up A h))) (retE (iteF (binTE rfl rfl (dEq_str start_ok done_ok)) rfl))))
  | done x =>
    have hc := chain_len A x h
    have hb := A.bd x h
    refine runB_rt (seqN (ifsF (binTE rfl rfl ec) rfl) (seqN (setE (callE (ds := [.dic (mapD .str l), .str x]) rfl rfl (v_way_up A h))) (retE (iteT (binTE rfl rfl (dEq_str done_ok done_ok)) (binE (y := .lst [.str x]) rfl rfl ?_)))))
    show (if ((chain l x).map D.str).length + 1 ≤ LIM then some (D.lst ((chain l x).map D.str ++ [.str x])) else none) = some (.lst ((chain l x ++ [x]).map .str))
    rw [if_pos (by rw [List.length_map]; unfold LIM; omega), List.map_append]
    rfl
def usum (f : Str → Int) (xs ys : List Str) : Int := ((xs.filter fun x => !decide (x ∈ ys)).map f).sum
def uns (bs : Dis) (l : Anc) (one other : Mo) : Int := usum (fun x => (get bs x).2) (wayM l other) (wayM l one) - usum (fun x => (get bs x).1) (wayM l one) (wayM l other)
theorem ints_map {α : Type} (f : α → Int) : ∀ xs : List α, intsD (xs.map fun x => .int (f x)) = some (xs.map f)
  | [] => rfl
  | x :: xs => by
    rw [List.map_cons]
    show (intsD (xs.map fun x => .int (f x))).map (f x :: ·) = _
    rw [ints_map f xs]
    rfl
theorem way_mem {l : Anc} {rk : Str → Nat} (A : Acy l rk) {m : Mo} (h : m.ok (keys l)) : ∀ y ∈ wayM l m, y ∈ keys l := by
  cases m with
  | clock => intro y hy; cases hy
  | start x => exact fun y hy => (chain_rk A x h y hy).1
  | done x =>
    intro y hy
    rcases List.mem_append.mp hy with z | z
    · exact (chain_rk A x h y z).1
    · rw [List.mem_singleton.mp z]; exact h
theorem way_len {l : Anc} {rk : Str → Nat} (A : Acy l rk) {m : Mo} (h : m.ok (keys l)) : (wayM l m).length ≤ 200 := by
  have hl := A.len
  cases m with
  | clock => exact Nat.zero_le _
  | start x =>
    have h1 := chain_len A x h
    have h2 := A.bd x h
    show (chain l x).length ≤ _
    omega
  | done x =>
    have h1 := chain_len A x h
    have h2 := A.bd x h
    show (chain l x ++ [x]).length ≤ _
    rw [List.length_append, List.length_singleton]
    omega
theorem v_unshared {bs : Dis} {l : Anc} {rk : Str → Nat} (A : Acy l rk) (hk : ∀ x ∈ keys l, x ∈ keys bs) {one other : Mo} (h1 : one.ok (keys l)) (h2 : other.ok (keys l)) : f_unshared [.dic (mapD bD bs), .dic (mapD .str l), one.d, other.d] = .ok (.int (uns bs l one other)) := by
  have o1 : ∀ y ∈ wayM l one, sOk y := fun y hy => (A.good y (way_mem A h1 y hy)).ok
  have o2 : ∀ y ∈ wayM l other, sOk y := fun y hy => (A.good y (way_mem A h2 y hy)).ok
  have n1 := way_len A h1
  have n2 := way_len A h2
  refine runB_rt (seqN (asgE (d := .tup [txs (wayM l one), txs (wayM l other)]) (tupE (consE (callE (ds := [.dic (mapD .str l), one.d]) rfl rfl (v_way_of A h1)) (consE (callE (ds := [.dic (mapD .str l), other.d]) rfl rfl (v_way_of A h2)) rfl)) (show 2 ≤ 1000 by decide)) rfl)
    (seqN (setE (d := .int (usum (fun x => (get bs x).2) (wayM l other) (wayM l one))) (bltE (consE (lcE (ds := (wayM l other).map .str) rfl (by rw [List.length_map]; unfold LIM; omega) (lc_filter D.str (fun x => !decide (x ∈ wayM l one)) (fun x => .int (get bs x).2) (wayM l other) fun x hx => ⟨_, rfl, binTE rfl rfl (dNotIn_strs (o2 x hx) o1), fun _ => binE (binE rfl rfl (by rw [dIdx_map, look_get (hk x (way_mem A h2 x hx))]; rfl)) rfl rfl⟩)) rfl) ?_))
      (retE (binE rfl (bltE (d := .int (usum (fun x => (get bs x).1) (wayM l one) (wayM l other))) (consE (lcE (ds := (wayM l one).map .str) rfl (by rw [List.length_map]; unfold LIM; omega) (lc_filter D.str (fun x => !decide (x ∈ wayM l other)) (fun x => .int (get bs x).1) (wayM l one) fun x hx => ⟨_, rfl, binTE rfl rfl (dNotIn_strs (o1 x hx) o2), fun _ => binE (binE rfl rfl (by rw [dIdx_map, look_get (hk x (way_mem A h1 x hx))]; rfl)) rfl rfl⟩)) rfl) ?_) rfl))))
  · show (intsD _).map (fun bs => D.int bs.sum) = _
    rw [ints_map]
    rfl
  · show (intsD _).map (fun bs => D.int bs.sum) = _
    rw [ints_map]
    rfl
/-! ### how far moments lie apart -/
def wsum (rs : Row) : Mo → Int
  | .clock => 0
  | .start x => added rs x
  | .done x => added rs x
def Mo.dish : Mo → Str
  | .clock => "clock"
  | .start x => x
  | .done x => x
theorem v_dish_of {ks : List Str} (hk : ∀ x ∈ ks, Good x) {m : Mo} (h : m.ok ks) : f_dish_of [m.d] = .ok (.str m.dish) := by
  have ec := Mo.eqClock hk h
  cases m with
  | clock => exact runB_rt (retE (iteT (binTE rfl rfl ec) rfl))
  | start x => exact runB_rt (retE (iteF (binTE rfl rfl ec) rfl))
  | done x => exact runB_rt (retE (iteF (binTE rfl rfl ec) rfl))
theorem look_sums {rs : Row} {x : Str} (hx : x ∈ keys rs) : (sumsR rs).lookup x = some (added rs x) := by
  unfold sumsR
  rw [look_tab, if_pos hx]
theorem keys_sums (rs : Row) : keys (sumsR rs) = keys rs := by
  show ((keys rs).map fun x => (x, added rs x)).map (·.1) = keys rs
  rw [List.map_map]
  show (keys rs).map (fun x => x) = _
  rw [List.map_id']
theorem worth_of {rs : Row} (hc : ("clock" : Str) ∉ keys rs) {m : Mo} (h : m.ok (keys rs)) : (sumsR rs ++ [(("clock" : Str), (0 : Int))]).lookup m.dish = some (wsum rs m) := by
  rw [List.lookup_append]
  cases m with
  | clock =>
    show (((sumsR rs).lookup ("clock" : Str)).or _) = _
    rw [look_none (by show ("clock" : Str) ∉ keys (sumsR rs); rw [keys_sums]; exact hc)]
    rfl
  | start x =>
    show (((sumsR rs).lookup x).or _) = _
    rw [look_sums h]
    rfl
  | done x =>
    show (((sumsR rs).lookup x).or _) = _
    rw [look_sums h]
    rfl
def behd (bs : Dis) (rs : Row) (one other : Mo) : Int := wsum rs other - wsum rs one + uns bs (anc rs) one other
theorem Mo.ok_anc {rs : Row} {m : Mo} (h : m.ok (keys rs)) : m.ok (keys (anc rs)) := by rw [keys_anc]; exact h
theorem v_behind_by {bs : Dis} {rs : Row} {rk : Str → Nat} (B : BookOk rs rk) (hk : ∀ x ∈ keys rs, x ∈ keys bs) {one other : Mo} (h1 : one.ok (keys rs)) (h2 : other.ok (keys rs)) :
    f_behind_by [.dic (mapD bD bs), .dic (mapD .str (anc rs)), .dic (mapD .int (sumsR rs)), one.d, other.d] = .ok (.int (behd bs rs one other)) := by
  have hc : ("clock" : Str) ∉ keys rs := fun z => (B.good _ z).nc rfl
  have hl := B.len
  have ew : fDsp1 (fVar 2) (fC (.str "clock")) (fC (.int 0)) (startD N_behind_by [.dic (mapD bD bs), .dic (mapD .str (anc rs)), .dic (mapD .int (sumsR rs)), one.d, other.d]) = .ok (.dic (mapD .int (sumsR rs ++ [(("clock" : Str), (0 : Int))]))) := by
    rw [dsp1E (kvs := mapD .int (sumsR rs)) rfl (by show (mapD D.int (sumsR rs)).length < LIM; unfold mapD sumsR; rw [List.length_map, List.length_map, List.length_map]; unfold LIM; omega) rfl rfl rfl, put_new (f := D.int) (by show ("clock" : Str) ∉ keys (sumsR rs); rw [keys_sums]; exact hc)]
  refine runB_rt (seqN (setE ew) (retE (binE (x := .int (wsum rs other - wsum rs one)) (binE (x := .int (wsum rs other)) (y := .int (wsum rs one)) (binE rfl (callE (ds := [other.d]) rfl rfl (v_dish_of B.good h2)) ?_) (binE rfl (callE (ds := [one.d]) rfl rfl (v_dish_of B.good h1)) ?_) rfl) (callE (ds := [.dic (mapD bD bs), .dic (mapD .str (anc rs)), one.d, other.d]) rfl rfl (v_unshared B.acy (by rw [keys_anc]; exact hk) (Mo.ok_anc h1) (Mo.ok_anc h2))) rfl)))
  · rw [dIdx_map, worth_of hc h2]; rfl
  · rw [dIdx_map, worth_of hc h1]; rfl
/-! ### slacks, most_behind -/
theorem v_slacks {bs : Dis} {ws : List Wi} {st : List (List Str)} {rs : Row} {rk : Str → Nat} (B : BookOk rs rk) (hn : (keys bs).Nodup) (hb : bs.length ≤ 1000) (hp : (keys bs).Perm (keys rs)) (hw : ∀ w ∈ ws, w.ok (keys rs)) (hl : ws.length ≤ 1000) :
    f_slacks [mealD bs ws st, bookD rs] = .ok (.lst (ws.map fun w => .int (w.most - behd bs rs w.one w.other))) := by
  have hk : ∀ x ∈ keys rs, x ∈ keys bs := fun x hx => hp.symm.subset hx
  refine runB_rt (seqN (dropE (callE (ds := [.dic (mapD bD bs), .dic (mapD rD rs)]) (consE (fldE rfl rfl) (consE (fldE rfl rfl) rfl)) rfl (v_check_alike hn hp hb))) (seqN (asgE (d := .tup [.dic (mapD .str (anc rs)), .dic (mapD .int (sumsR rs))]) (tupE (consE (callE (ds := [bookD rs]) rfl rfl (v_anchors_of B.nd (by have := B.len; omega))) (consE (methE rfl rfl (ds := []) rfl rfl (v_sums B)) rfl)) (show 2 ≤ 1000 by decide)) rfl) (retE (lcE (iterE (d := .tup (ws.map Wi.d)) (fldE rfl rfl) rfl) (by rw [List.length_map]; unfold LIM; omega) (lc_map Wi.d (fun w => .int (w.most - behd bs rs w.one w.other)) ws fun w h => ⟨_, rfl, binE rfl (callE (ds := [.dic (mapD bD bs), .dic (mapD .str (anc rs)), .dic (mapD .int (sumsR rs)), w.one.d, w.other.d]) (consE (fldE rfl rfl) rfl) rfl (v_behind_by B hk (hw w h).1 (hw w h).2)) rfl⟩)))))
theorem v_check_moments {bs : Dis} {ws : List Wi} {st : List (List Str)} {one other : Mo} (h1 : one.ok (keys bs)) (h2 : other.ok (keys bs)) : f_check_moments [mealD bs ws st, one.d, other.d] = .ok .non := by
  obtain ⟨s', e, x, rfl⟩ := for_inv (g := fgNm 3) (b := b_check_moments_1) (fun s => ∃ x, s = [some (mealD bs ws st), some one.d, some other.d, x]) [one.d, other.d] [some (mealD bs ws st), some one.d, some other.d, none] ⟨_, rfl⟩ (fun d hd s ⟨x, hs⟩ => by
    subst hs
    have hm : f_is_moment [d, .dic (mapD bD bs)] = .ok (.bl true) := by
      rcases List.mem_cons.mp hd with z | z
      · subst z; exact v_is_moment h1
      · have z := List.mem_singleton.mp z; subst z; exact v_is_moment h2
    exact ⟨_, rfl, _, ifsF (notTE (valE (callE (ds := [d, .dic (mapD bD bs)]) (consE rfl (consE (fldE rfl rfl) rfl)) rfl hm))) rfl, _, rfl⟩)
  exact runB_nx (forE (ds := [one.d, other.d]) rfl e)
theorem Mo.ok_perm {ks ks' : List Str} (h : ∀ x ∈ ks, x ∈ ks') {m : Mo} (hm : m.ok ks) : m.ok ks' := by
  cases m with
  | clock => trivial
  | start x => exact h x hm
  | done x => exact h x hm
theorem v_most_behind {bs : Dis} {ws : List Wi} {st : List (List Str)} {rs : Row} {rk : Str → Nat} (B : BookOk rs rk) (hn : (keys bs).Nodup) (hb : bs.length ≤ 1000) (hp : (keys bs).Perm (keys rs)) {one other : Mo} (h1 : one.ok (keys rs)) (h2 : other.ok (keys rs)) :
    f_most_behind [mealD bs ws st, bookD rs, one.d, other.d] = .ok (.int (behd bs rs one other)) := by
  have hk : ∀ x ∈ keys rs, x ∈ keys bs := fun x hx => hp.symm.subset hx
  exact runB_rt (seqN (dropE (callE (ds := [.dic (mapD bD bs), .dic (mapD rD rs)]) (consE (fldE rfl rfl) (consE (fldE rfl rfl) rfl)) rfl (v_check_alike hn hp hb))) (seqN (dropE (callE (ds := [mealD bs ws st, one.d, other.d]) rfl rfl (v_check_moments (Mo.ok_perm hk h1) (Mo.ok_perm hk h2)))) (retE (callE (ds := [.dic (mapD bD bs), .dic (mapD .str (anc rs)), .dic (mapD .int (sumsR rs)), one.d, other.d]) (consE (fldE rfl rfl) (consE (callE (ds := [bookD rs]) rfl rfl (v_anchors_of B.nd (by have := B.len; omega))) (consE (methE rfl rfl (ds := []) rfl rfl (v_sums B)) (consE (callE (ds := [one.d]) rfl rfl v_frozen) (consE (callE (ds := [other.d]) rfl rfl v_frozen) rfl))))) rfl (v_behind_by B hk h1 h2)))))
end DL
namespace DL
open PySem PySem.Spec PyProof.Rows L2
variable [TabC]
/-! ### the drawing helpers keep their promises -/
theorem upE {α : Type} {f : FM α} {xq : XQ} {s : Ev} {n : Nat} {Q : α → Nat → Prop} {a : α} (h : f s = .ok a) (q : Q a n) : up f xq s n Q := by
  unfold up
  rw [h]
  exact q
theorem upSN {f : FS} {xq : XQ} {de : DE} {s s' : Ev} {n : Nat} (h : f s = .nx s') (q : de.nx s' n) : upS f xq de s n := by
  unfold upS
  rw [h]
  exact q
theorem upSR {f : FS} {xq : XQ} {de : DE} {s : Ev} {d : D} {n : Nat} (h : f s = .rt d) (q : de.rt d n) : upS f xq de s n := by
  unfold upS
  rw [h]
  exact q
theorem seqU {f : FS} {r : SM} {xq : XQ} {de : DE} {s s' : Ev} {n : Nat} (h : f s = .nx s') (q : r xq de s' n) : sSeq (upS f) r xq de s n := by
  unfold sSeq upS
  rw [h]
  exact q
theorem ifOrT {t : FM Bool} {u : EM Bool} {A B : SM} {xq : XQ} {de : DE} {s : Ev} {n : Nat} (h : t s = .ok true) (q : A xq de s n) : sIf (tOrD (up t) u) A B xq de s n := by
  unfold sIf tOrD up
  rw [h]
  exact q
theorem ifOrF {t : FM Bool} {u : EM Bool} {A B : SM} {xq : XQ} {de : DE} {s : Ev} {n : Nat} (h : t s = .ok false) (q : sIf u A B xq de s n) : sIf (tOrD (up t) u) A B xq de s n := by
  unfold sIf tOrD up
  rw [h]
  exact q
theorem ifUT {t : FM Bool} {A B : SM} {xq : XQ} {de : DE} {s : Ev} {n : Nat} (h : t s = .ok true) (q : A xq de s n) : sIf (up t) A B xq de s n := by
  unfold sIf up
  rw [h]
  exact q
theorem ifUF {t : FM Bool} {A B : SM} {xq : XQ} {de : DE} {s : Ev} {n : Nat} (h : t s = .ok false) (q : B xq de s n) : sIf (up t) A B xq de s n := by
  unfold sIf up
  rw [h]
  exact q
theorem seqM {m r : SM} {xq : XQ} {de : DE} {s : Ev} {n : Nat} (h : m xq { de with nx := fun s' n' => r xq de s' n' } s n) : sSeq m r xq de s n := h
section
variable {xq : XQ} {s : Ev} {n : Nat} {Q : D → Nat → Prop} {QL : List D → Nat → Prop} {a b : FM D} {l : FM (List D)} {m m2 : EM D} {ml : EM (List D)} {d d' : D}
theorem tupM (h : ml xq s n fun ds n1 => ds.length ≤ 1000 ∧ Q (.tup ds) n1) : eTup ml xq s n Q := h
theorem lstM (h : ml xq s n fun ds n1 => ds.length ≤ 1000 ∧ Q (.lst ds) n1) : eLst ml xq s n Q := h
theorem consU (h : a s = .ok d) (q : ml xq s n fun ds n' => QL (d :: ds) n') : eCons (up a) ml xq s n QL := by
  unfold eCons up
  rw [h]
  exact q
theorem consM (h : m xq s n fun d n1 => ml xq s n1 fun ds n2 => QL (d :: ds) n2) : eCons m ml xq s n QL := h
theorem nilU (q : QL [] n) : up fNil xq s n QL := q
theorem callM {len : Nat} {sp : FSp} {dds ds : List D} (h : l s = .ok ds) (hl : (ds ++ dds).length = len) (q : sp.run (ds ++ dds) n Q xq) : eCall len sp dds (up l) xq s n Q := by
  unfold eCall up
  rw [h]
  exact ⟨hl, q⟩
theorem callMM {len : Nat} {sp : FSp} {dds : List D} (q : ml xq s n fun ds n1 => (ds ++ dds).length = len ∧ sp.run (ds ++ dds) n1 Q xq) : eCall len sp dds ml xq s n Q := q
theorem binUM {f : D → D → Option D} (h : a s = .ok d) (q : m xq s n fun y n2 => ∃ z, f d y = some z ∧ Q z n2) : eBin f (up a) m xq s n Q := by
  unfold eBin up
  rw [h]
  exact q
theorem binMM {f : D → D → Option D} (q : m xq s n fun x n1 => m2 xq s n1 fun y n2 => ∃ z, f x y = some z ∧ Q z n2) : eBin f m m2 xq s n Q := q
theorem setM {i : Nat} {de : DE} (h : m xq s n fun d n' => de.nx (s.set i (some d)) n') : sSet i m xq de s n := h
theorem parM {i j : Nat} {de : DE} (h : m xq s n fun d n1 => m2 xq s n1 fun d' n2 => de.nx ((s.set i (some d)).set j (some d')) n2) : sPar i j m m2 xq de s n := h
theorem forU {i : FM (List D)} {g : DG} {mb : SM} {de : DE} {ds : List D} (h : i s = .ok ds) (q : sForL g mb xq de ds s n) : sFor (up i) g mb xq de s n := by
  unfold sFor up
  rw [h]
  exact q
theorem forM {mi : EM (List D)} {g : DG} {mb : SM} {de : DE} (q : mi xq s n fun ds n1 => sForL g mb xq de ds s n1) : sFor mi g mb xq de s n := q
theorem dputM {i : Nat} {mk : EM D} {de : DE} (q : m xq s n fun d n1 => mk xq s n1 fun k n2 => ∃ kk kvs, keyD k = some kk ∧ s[i]? = some (some (.dic kvs)) ∧ kvs.length < LIM ∧ de.nx (s.set i (some (.dic (putD kvs kk d)))) n2) : sDput i mk m xq de s n := q
theorem retM {de : DE} (q : m xq s n de.rt) : sRet m xq de s n := q
end
theorem sfor_go {α : Type} {g : FG} {mb : SM} {xq : XQ} {de : DE} (f : α → D) (I : List α → Ev → Nat → Prop) (L : List α) (hd : ∀ s' n', I L s' n' → de.nx s' n')
    (st : ∀ acc d post s n (de' : DE), acc ++ d :: post = L → I acc s n → (∀ s2 n2, I (acc ++ [d]) s2 n2 → de'.nx s2 n2) → ∃ s1, g (f d) s = some s1 ∧ mb xq de' s1 n) : ∀ (ds acc : List α) (s : Ev) (n : Nat), acc ++ ds = L → I acc s n → sForL (upG g) mb xq de (ds.map f) s n
  | [], acc, s, n, e, h => hd s n (by rw [List.append_nil] at e; rw [← e]; exact h)
  | d :: ds, acc, s, n, e, h => by
    obtain ⟨s1, e1, w⟩ := st acc d ds s n { de with nx := fun s2 n2 => sForL (upG g) mb xq de (ds.map f) s2 n2, ct := fun s2 n2 => sForL (upG g) mb xq de (ds.map f) s2 n2, bk := de.nx } e h fun s2 n2 h2 => sfor_go f I L hd st ds (acc ++ [d]) s2 n2 (by rw [List.append_assoc]; exact e) h2
    exact ⟨s1, e1, w⟩
theorem sfor_acc {α : Type} {g : FG} {mb : SM} {xq : XQ} {de : DE} (f : α → D) (I : List α → Ev → Nat → Prop) (L : List α) {s : Ev} {n : Nat} (h0 : I [] s n) (hd : ∀ s' n', I L s' n' → de.nx s' n')
    (st : ∀ acc d post s n (de' : DE), acc ++ d :: post = L → I acc s n → (∀ s2 n2, I (acc ++ [d]) s2 n2 → de'.nx s2 n2) → ∃ s1, g (f d) s = some s1 ∧ mb xq de' s1 n) : sForL (upG g) mb xq de (L.map f) s n := sfor_go f I L hd st L [] s n rfl h0
theorem sfore_go {α : Type} {g : FG} {mb : SM} {xq : XQ} {de : DE} (f : α → D) (I : List α → Ev → Nat → Prop) (L : List α) (hd : ∀ s' n', I L s' n' → de.nx s' n')
    (st : ∀ acc d post s n (de' : DE), acc ++ d :: post = L → I acc s n → (∀ s2 n2, I (acc ++ [d]) s2 n2 → de'.nx s2 n2) → ∃ s1, g (.tup [.int (acc.length : Nat), f d]) s = some s1 ∧ mb xq de' s1 n) : ∀ (ds acc : List α) (s : Ev) (n : Nat), acc ++ ds = L → I acc s n → sForL (upG g) mb xq de (pairsD acc.length (ds.map f)) s n
  | [], acc, s, n, e, h => hd s n (by rw [List.append_nil] at e; rw [← e]; exact h)
  | d :: ds, acc, s, n, e, h => by
    rw [List.map_cons, pairsD]
    obtain ⟨s1, e1, w⟩ := st acc d ds s n { de with nx := fun s2 n2 => sForL (upG g) mb xq de (pairsD (acc.length + 1) (ds.map f)) s2 n2, ct := fun s2 n2 => sForL (upG g) mb xq de (pairsD (acc.length + 1) (ds.map f)) s2 n2, bk := de.nx } e h fun s2 n2 h2 => by
      have := sfore_go f I L hd st ds (acc ++ [d]) s2 n2 (by rw [List.append_assoc]; exact e) h2
      rw [List.length_append, List.length_singleton] at this
      exact this
    exact ⟨s1, e1, w⟩
theorem sfor_enum {α : Type} {g : FG} {mb : SM} {xq : XQ} {de : DE} (f : α → D) (I : List α → Ev → Nat → Prop) (L : List α) {s : Ev} {n : Nat} (h0 : I [] s n) (hd : ∀ s' n', I L s' n' → de.nx s' n')
    (st : ∀ acc d post s n (de' : DE), acc ++ d :: post = L → I acc s n → (∀ s2 n2, I (acc ++ [d]) s2 n2 → de'.nx s2 n2) → ∃ s1, g (.tup [.int (acc.length : Nat), f d]) s = some s1 ∧ mb xq de' s1 n) : sForL (upG g) mb xq de (pairsD 0 (L.map f)) s n := sfore_go f I L hd st L [] s n rfl h0
theorem slc_go {α : Type} {g : FG} {me : EM D} {xq : XQ} {s0 : Ev} {Q : List D → Nat → Prop} (f : α → D) (I : List α → List D → Nat → Prop) (L : List α) (hd : ∀ xs n', I L xs n' → Q xs n')
    (st : ∀ acc d post xs n (Q' : D → Nat → Prop), acc ++ d :: post = L → I acc xs n → (∀ x n2, I (acc ++ [d]) (xs ++ [x]) n2 → Q' x n2) → ∃ s1, g (f d) s0 = some s1 ∧ me xq s1 n Q') : ∀ (ds acc : List α) (xs : List D) (n : Nat), acc ++ ds = L → I acc xs n → sLcL (upG g) (up fYes) me xq s0 (ds.map f) n xs Q
  | [], acc, xs, n, e, h => hd xs n (by rw [List.append_nil] at e; rw [← e]; exact h)
  | d :: ds, acc, xs, n, e, h => by
    obtain ⟨s1, e1, w⟩ := st acc d ds xs n (fun x n2 => sLcL (upG g) (up fYes) me xq s0 (ds.map f) n2 (xs ++ [x]) Q) e h fun x n2 h2 => slc_go f I L hd st ds (acc ++ [d]) (xs ++ [x]) n2 (by rw [List.append_assoc]; exact e) h2
    exact ⟨s1, e1, w⟩
theorem slc_acc {α : Type} {g : FG} {me : EM D} {xq : XQ} {s0 : Ev} {n : Nat} {Q : List D → Nat → Prop} (f : α → D) (I : List α → List D → Nat → Prop) (L : List α) (h0 : I [] [] n) (hd : ∀ xs n', I L xs n' → Q xs n')
    (st : ∀ acc d post xs n (Q' : D → Nat → Prop), acc ++ d :: post = L → I acc xs n → (∀ x n2, I (acc ++ [d]) (xs ++ [x]) n2 → Q' x n2) → ∃ s1, g (f d) s0 = some s1 ∧ me xq s1 n Q') : sLcL (upG g) (up fYes) me xq s0 (L.map f) n [] Q := slc_go f I L hd st L [] [] n rfl h0
theorem nat_of {r : Int} (h : 0 ≤ r) : ∃ j : Nat, r = j := ⟨r.toNat, by omega⟩
theorem M__law_one : Meets 2 N__law_one sp__law_one B__law_one := by
  intro ds n Q xq hl h
  obtain ⟨xs, rfl, h1, h2, h3, q⟩ := h
  refine ⟨rfl, (xs.length : Int), rfl, by omega, by omega, h3, fun r r0 r1 => ?_⟩
  obtain ⟨j, rfl⟩ := nat_of r0
  have hj : j < xs.length := by omega
  exact ⟨xs[j], by rw [dIdx_lst]; simp [hj], q _ (List.getElem_mem hj)⟩
theorem erase_perm {α : Type} : ∀ (j : Nat) (l : List α) (h : j < l.length), (l[j] :: l.eraseIdx j).Perm l
  | _, [], h => by simp at h
  | 0, x :: xs, h => List.Perm.refl _
  | j + 1, x :: xs, h => by
    have h' : j < xs.length := by simpa using h
    show (xs[j] :: x :: xs.eraseIdx j).Perm (x :: xs)
    exact (List.Perm.swap x xs[j] _).trans (List.Perm.cons x (erase_perm j xs h'))
theorem erase_len {α : Type} : ∀ (j : Nat) (l : List α), j < l.length → (l.eraseIdx j).length + 1 = l.length
  | _, [], h => by simp at h
  | 0, x :: xs, h => rfl
  | j + 1, x :: xs, h => by
    have h' : j < xs.length := by simpa using h
    show (xs.eraseIdx j).length + 1 + 1 = xs.length + 1
    rw [erase_len j xs h']
theorem pyEq_nil (xs : List D) : pyEq (.lst xs) (.lst []) = xs.isEmpty := by cases xs <;> rfl
theorem nil_ok : okD (.lst []) = true := (OkN.lst (k := 0) (xs := []) (fun _ h => nomatch h)).ok (by decide)
theorem M__law_mix : Meets 2 N__law_mix sp__law_mix B__law_mix := by
  intro ds n Q xq hl h
  obtain ⟨xs, hds, h1, hok, h2, q⟩ := h
  have first : ∀ T, ds = [.st, T] → (T = .lst xs ∨ T = .tup xs) → B__law_mix xq { nx := fun _ n' => Q .non n', rt := Q } (startD N__law_mix ds) n := by
    intro T ed hT
    subst ed
    have e0 : fBlt dList (fCons (fVar 1) fNil) (startD N__law_mix [.st, T]) = .ok (.lst xs) := by
      rcases hT with z | z <;> subst z <;> exact bltE rfl rfl
    refine upSN (parFFE (show 2 < 4 by decide) (show 3 < 4 by decide) e0 rfl) ⟨xs.length + 1, ?_⟩
    have key : ∀ (k : Nat) (left found : List D) (n : Nat), left.length = k → (found ++ left).Perm xs → n + k < 2 ^ 32 → (∀ ys : List D, ys.Perm xs → Q (.lst ys) (n + k)) →
        sWhileN (up (fBinT dNe (fVar 2) (fLst fNil))) (sAppPop 3 2 (eCall 2 sp__law_take [] (up (fCons (fVar 0) (fCons (fBlt dLen (fCons (fVar 2) fNil)) fNil))))) xq { nx := fun s' n' => upS (fRet (fVar 3)) xq { nx := fun _ n' => Q .non n', rt := Q } s' n', rt := Q } (k + 1)
          [some .st, some T, some (.lst left), some (.lst found)] n := by
      intro k
      induction k with
      | zero =>
        intro left found n hk hp hn q
        have e : left = [] := List.eq_nil_of_length_eq_zero hk
        subst e
        rw [List.append_nil] at hp
        refine upE (a := false) (binTE rfl rfl (dNe_ok nil_ok nil_ok)) ?_
        exact q found hp
      | succ k ih =>
        intro left found n hk hp hn q
        have hlen : found.length + left.length = xs.length := by rw [← List.length_append]; exact hp.length_eq
        have hle : ∀ x ∈ left, OkN 60 x := fun x hx => hok x (hp.subset (List.mem_append_right _ hx))
        have ht : dNe (.lst left) (.lst []) = some (.bl true) := by
          rw [dNe_ok ((OkN.lst hle).ok (by decide)) nil_ok, pyEq_nil]
          cases left with
          | nil => cases hk
          | cons x l => rfl
        refine upE (a := true) (binTE rfl rfl ht) ?_
        refine ⟨found, left, rfl, rfl, rfl, (left.length : Int), rfl, by omega, by omega, by omega, fun r r0 r1 => ?_⟩
        obtain ⟨j, rfl⟩ := nat_of r0
        have hj : j < left.length := by omega
        refine ⟨j, left[j], rfl, by simp [hj], by unfold LIM; omega, by unfold LIM; omega, ?_⟩
        have hp2 : (found ++ [left[j]] ++ left.eraseIdx j).Perm xs := by
          refine List.Perm.trans ?_ hp
          rw [List.append_assoc]
          exact List.Perm.append_left _ (erase_perm j left hj)
        refine ih (left.eraseIdx j) (found ++ [left[j]]) (n + 1) (by have := erase_len j left hj; omega) hp2 (by omega) (fun ys hy => ?_)
        have := q ys hy
        rw [show n + (k + 1) = n + 1 + k by omega] at this
        exact this
    exact key xs.length xs [] n rfl (List.Perm.refl _) (by omega) q
  rcases hds with z | z
  · exact first _ z (.inl rfl)
  · exact first _ z (.inr rfl)
theorem names_ok : ∀ x ∈ NAMES, isGood x = true := by decide +kernel
theorem names_good {x : Str} (h : x ∈ NAMES) : Good x := good_of (names_ok x h)
theorem cut_to (xs : List D) (k : Nat) : cutL xs none (some (k : Int)) = xs.take k := by
  unfold cutL
  rw [HT.sIx_none, HT.sIx_nat, List.drop_zero, Nat.sub_zero]
  rcases Nat.le_total k xs.length with h | h
  · rw [Nat.min_eq_left h]
  · rw [Nat.min_eq_right h, List.take_length, List.take_of_length_le h]
theorem M__law_names : Meets 2 N__law_names sp__law_names B__law_names := by
  intro ds n Q xq hl h
  obtain ⟨k, rfl, h2, q⟩ := h
  unfold B__law_names
  refine seqU (s' := [some .st, some (.int k), some (txs (NAMES.take 8))]) rfl ⟨rfl, ?_⟩
  refine mix_strs (xs := NAMES) (by decide) (fun x hx => (names_good hx).ok) h2 fun ys p => ?_
  refine ⟨_, rfl, ?_⟩
  have e : cutL (ys.map D.str) none (some (k : Int)) = (ys.take k).map .str := by rw [cut_to, List.map_take]
  rw [e]
  exact q ys p
theorem nd_pre {L acc post : List Str} {d : Str} (hn : L.Nodup) (e : acc ++ d :: post = L) : d ∉ acc := fun z => by
  rw [← e] at hn
  exact (List.nodup_append.mp hn).2.2 _ z _ List.mem_cons_self rfl
theorem M__law_dishes : Meets 3 N__law_dishes sp__law_dishes B__law_dishes := by
  intro ds n Q xq hl h
  obtain ⟨xs, w, rfl, h1, hn, hok, hw0, hw1, h2, q⟩ := h
  unfold B__law_dishes
  refine seqU (setFE (show 3 < 6 by decide) rfl) ⟨rfl, ?_⟩
  refine mix_strs h1 hok (by omega) fun ys hp => ⟨_, rfl, ?_⟩
  have hyn : ys.Nodup := hp.nodup_iff.mpr hn
  have hyl : ys.length = xs.length := hp.length_eq
  refine sfor_acc D.str (fun acc s m => ∃ (l : Dis) (x4 x5 : Option D), keys l = acc ∧ (∀ d ∈ l, 1 ≤ d.2.1 ∧ d.2.1 ≤ 6 ∧ d.2.1 ≤ d.2.2 ∧ d.2.2 < d.2.1 + w) ∧ m = n + xs.length + 2 * acc.length ∧ s = [some .st, some (txs xs), some (.int w), some (.dic (mapD bD l)), x4, x5]) ys ⟨[], none, none, rfl, (fun _ z => nomatch z), by simp, rfl⟩ ?_ ?_
  · rintro s' n' ⟨l, x4, x5, hk, hb, rfl, rfl⟩
    have := q l (by rw [hk]; exact hp) hb
    rw [show n + 3 * xs.length = n + xs.length + 2 * ys.length by omega] at this
    exact this
  · rintro acc d post s m de' e ⟨l, x4, x5, hk, hb, rfl, rfl⟩ hq
    have hlt := len_pre e
    refine ⟨_, rfl, rfl, 6, rfl, by decide, by decide, by omega, fun r r0 r1 => ⟨.int (1 + r), rfl, rfl, w, rfl, by omega, by omega, by omega, fun r' r0' r1' => ⟨.int (1 + r + r'), rfl, show 2 ≤ 1000 by decide, .inr d, mapD bD l, rfl, rfl, ?_, ?_⟩⟩⟩
    · have : l.length = acc.length := by rw [← hk, List.length_map]
      unfold mapD
      rw [List.length_map]
      exact lim_of (by omega)
    · refine hq _ _ ⟨l ++ [(d, (1 + r, 1 + r + r'))], some (.str d), some (.int (1 + r)), ?_, ?_, ?_, ?_⟩
      · show (l ++ _).map (·.1) = _
        rw [List.map_append]
        show keys l ++ [d] = _
        rw [hk]
      · intro p hp'
        rcases List.mem_append.mp hp' with z | z
        · exact hb p z
        · rw [List.mem_singleton.mp z]
          refine ⟨?_, ?_, ?_, ?_⟩
          · show 1 ≤ 1 + r; omega
          · show 1 + r ≤ 6; omega
          · show 1 + r ≤ 1 + r + r'; omega
          · show 1 + r + r' < 1 + r + w; omega
      · rw [List.length_append, List.length_singleton]; omega
      · rw [← put_new (f := bD) (by show d ∉ keys l; rw [hk]; exact nd_pre hyn e)]
        rfl
theorem Mo.one_of {ks : List Str} {x : D} {y : Str} (hx : x ∈ [D.str "done", .str "start", .str "done"]) (hy : y ∈ ks) : ∃ m : Mo, m.ok ks ∧ D.tup [x, .str y] = m.d := by
  have h : x = .str "done" ∨ x = .str "start" := by
    rcases List.mem_cons.mp hx with z | z
    · exact .inl z
    · rcases List.mem_cons.mp z with z | z
      · exact .inr z
      · exact .inl (List.mem_singleton.mp z)
  rcases h with z | z
  · subst z; exact ⟨.done y, hy, rfl⟩
  · subst z; exact ⟨.start y, hy, rfl⟩
theorem eqNil {xs : List Str} (h : ∀ x ∈ xs, sOk x) : dEq (txs xs) (.lst []) = some (.bl xs.isEmpty) := by
  rw [dEq_ok (ok_strs h) nil_ok, pyEq_nil]
  cases xs <;> rfl
theorem neNil {xs : List Str} (h : ∀ x ∈ xs, sOk x) : dNe (txs xs) (.lst []) = some (.bl (!xs.isEmpty)) := by
  rw [dNe_ok (ok_strs h) nil_ok, pyEq_nil]
  cases xs <;> rfl
theorem M__law_moment : Meets 2 N__law_moment sp__law_moment B__law_moment := by
  intro ds n Q xq hl h
  obtain ⟨xs, rfl, h1, hok, h2, q⟩ := h
  unfold B__law_moment sSeq
  cases hx : xs.isEmpty with
  | true => exact ifOrT (binTE rfl rfl (by rw [eqNil hok, hx])) (q .clock n trivial (Nat.le_refl _) (by omega))
  | false =>
    have hp : 0 < xs.length := by
      cases xs with
      | nil => cases hx
      | cons a l => exact Nat.succ_pos _
    refine ifOrF (binTE rfl rfl (by rw [eqNil hok, hx])) ⟨rfl, 6, rfl, by decide, by decide, by omega, fun r r0 r1 => ⟨_, dEq_int, ?_⟩⟩
    cases (r == 0) with
    | true => exact q .clock (n + 1) trivial (by omega) (by omega)
    | false =>
      refine ⟨rfl, _, rfl, (show 0 < 3 by decide), (show 3 ≤ 1000 by decide), by omega, fun x hx => ⟨rfl, _, rfl, (by rw [List.length_map]; exact hp), (by rw [List.length_map]; omega), by omega, fun y hy => ⟨show 2 ≤ 1000 by decide, ?_⟩⟩⟩
      obtain ⟨z, hz, rfl⟩ := List.mem_map.mp hy
      obtain ⟨m, hm, e⟩ := Mo.one_of hx hz
      rw [e]
      exact q m _ hm (by omega) (by omega)
end DL
namespace DL
open PySem PySem.Spec PyProof.Rows L2
variable [TabC]
theorem take_run {n : Nat} {k : Int} {Q : D → Nat → Prop} {xq : XQ} (h0 : 0 < k) (h1 : k < 2 ^ 32) (h2 : n < 2 ^ 32) (q : ∀ r : Int, 0 ≤ r → r < k → Q (.int r) (n + 1)) : sp__law_take.run [.st, .int k] n Q xq := ⟨k, rfl, h0, h1, h2, q⟩
theorem one_run {n : Nat} {xs : List D} {Q : D → Nat → Prop} {xq : XQ} (h0 : 0 < xs.length) (h1 : xs.length ≤ 1000) (h2 : n < 2 ^ 32) (q : ∀ x, x ∈ xs → Q x (n + 1)) : sp__law_one.run [.st, .lst xs] n Q xq := ⟨xs, rfl, h0, h1, h2, q⟩
theorem one_strs {n : Nat} {xs : List Str} {Q : D → Nat → Prop} {xq : XQ} (h0 : 0 < xs.length) (h1 : xs.length ≤ 1000) (h2 : n < 2 ^ 32) (q : ∀ x, x ∈ xs → Q (.str x) (n + 1)) : sp__law_one.run [.st, txs xs] n Q xq := by
  refine ⟨_, rfl, by rw [List.length_map]; exact h0, by rw [List.length_map]; exact h1, h2, fun x hx => ?_⟩
  obtain ⟨y, hy, rfl⟩ := List.mem_map.mp hx
  exact q y hy
theorem moment_run {n : Nat} {xs : List Str} {Q : D → Nat → Prop} {xq : XQ} (h1 : xs.length ≤ 100) (h2 : ∀ x ∈ xs, sOk x) (h3 : n < 2 ^ 30) (q : ∀ (m : Mo) (n' : Nat), m.ok xs → n ≤ n' → n' ≤ n + 3 → Q m.d n') : sp__law_moment.run [.st, txs xs] n Q xq := ⟨xs, rfl, h1, h2, h3, q⟩
/-- the last step of a wish -/
theorem wish_end {xq : XQ} {de : DE} {k : Option D} {sort most : Int} {ws : List Wi} {one other : Mo} {st x1 x2 : Option D} {n : Nat} (hl : ws.length ≤ 500) (q : ∀ m' : Int, de.nx [st, x1, x2, some (.lst ((ws ++ [Wi.mk one other m']).map Wi.d)), k, some (.int sort), some (.int most), some one.d, some other.d] n) :
    upS (fApp 3 (fTup (fCons (fVar 7) (fCons (fVar 8) (fCons (fIf (fBinT dGt (fVar 5) (fC (.int 2))) (fBin dSub (fVar 6) (fC (.int 4))) (fVar 6)) fNil))))) xq de [st, x1, x2, some (.lst (ws.map Wi.d)), k, some (.int sort), some (.int most), some one.d, some other.d] n := by
  have key : ∀ m' : Int, fIf (fBinT dGt (fVar 5) (fC (.int 2))) (fBin dSub (fVar 6) (fC (.int 4))) (fVar 6) [st, x1, x2, some (.lst (ws.map Wi.d)), k, some (.int sort), some (.int most), some one.d, some other.d] = .ok (.int m') → upS (fApp 3 (fTup (fCons (fVar 7) (fCons (fVar 8) (fCons (fIf (fBinT dGt (fVar 5) (fC (.int 2))) (fBin dSub (fVar 6) (fC (.int 4))) (fVar 6)) fNil))))) xq de [st, x1, x2, some (.lst (ws.map Wi.d)), k, some (.int sort), some (.int most), some one.d, some other.d] n := by
    intro m' e
    refine upSN (appE (ds := ws.map Wi.d) rfl (tupE (consE rfl (consE rfl (consE e rfl))) (show 3 ≤ 1000 by decide)) (by rw [List.length_map]; exact lim_of (by omega))) ?_
    have := q m'
    rw [List.map_append] at this
    exact this
  by_cases h : (2 : Int) < sort
  · exact key (most - 4) (iteT (binTE rfl rfl (by show some (D.bl (decide (2 < sort))) = _; rw [decide_eq_true h])) rfl)
  · exact key most (iteF (binTE rfl rfl (by show some (D.bl (decide (2 < sort))) = _; rw [decide_eq_false h])) rfl)
theorem ok_snoc {ks : List Str} {ws : List Wi} (h : ∀ w ∈ ws, w.ok ks) {one other : Mo} {m : Int} (h1 : one.ok ks) (h2 : other.ok ks) : ∀ w ∈ ws ++ [⟨one, other, m⟩], w.ok ks := fun w hw => by
  rcases List.mem_append.mp hw with z | z
  · exact h w z
  · rw [List.mem_singleton.mp z]; exact ⟨h1, h2⟩
theorem M__law_wishes : Meets 3 N__law_wishes sp__law_wishes B__law_wishes := by
  intro ds n Q xq hl h
  obtain ⟨xs, k, rfl, h1, hok, hk, h2, q⟩ := h
  unfold B__law_wishes
  refine seqU (setFE (show 3 < 9 by decide) rfl) ⟨rfl, take_run (k := (k : Int) + 1) (by omega) (by omega) (by omega) fun r r0 r1 => ?_⟩
  obtain ⟨j, rfl⟩ := nat_of r0
  refine ⟨(j : Int), rfl, by unfold LIM; omega, by omega, ?_⟩
  rw [Int.toNat_natCast]
  refine sfor_acc (fun i : Nat => .int (i : Nat)) (fun acc s m => ∃ (ws : List Wi) (x4 x5 x6 x7 x8 : Option D), ws.length = acc.length ∧ (∀ w ∈ ws, w.ok xs) ∧ n + 1 ≤ m ∧ m ≤ n + 1 + 10 * acc.length ∧ s = [some .st, some (txs xs), some (.int k), some (.lst (ws.map Wi.d)), x4, x5, x6, x7, x8]) (List.range j) ⟨[], _, _, _, _, _, rfl, (fun _ z => nomatch z), by simp, by simp, rfl⟩ ?_ ?_
  · rintro s' n' ⟨ws, x4, x5, x6, x7, x8, hl, hw, hm0, hm, rfl⟩
    rw [List.length_range] at hl hm
    exact q ws n' (by omega) hw (by omega) (by omega)
  · rintro acc d post s m de' e ⟨ws, x4, x5, x6, x7, x8, hl, hw, hm0, hm, rfl⟩ hq
    have hlt := len_pre e
    rw [List.length_range] at hlt
    refine ⟨_, rfl, rfl, take_run (by decide) (by decide) (by omega) fun r5 _ _ => ⟨rfl, take_run (by decide) (by decide) (by omega) fun r12 _ _ => ?_⟩⟩
    refine ⟨rfl, moment_run h1 hok (by omega) fun m1 n1 hm1 a1 b1 => ⟨rfl, moment_run h1 hok (by omega) fun m2 n2 hm2 a2 b2 => ?_⟩⟩
    by_cases hx : xs.isEmpty = true
    · -- no names at all
      have z1 : fAndT (fBinT dLt (fVar 5) (fC (.int 2))) (fBinT dNe (fVar 1) (fLst fNil)) [some .st, some (txs xs), some (.int k), some (.lst (ws.map Wi.d)), some (.int (d : Nat)), some (.int r5), some (.int r12), some m1.d, some m2.d] = .ok false := by
        by_cases c : r5 < 2
        · exact andTT (binTE rfl rfl (by show some (D.bl (decide (r5 < 2))) = _; rw [decide_eq_true c])) (binTE rfl rfl (by rw [neNil hok, hx]; rfl))
        · exact andTF (binTE rfl rfl (by show some (D.bl (decide (r5 < 2))) = _; rw [decide_eq_false c]))
      have z2 : fAndT (fBinT dEq (fVar 5) (fC (.int 2))) (fBinT dNe (fVar 1) (fLst fNil)) [some .st, some (txs xs), some (.int k), some (.lst (ws.map Wi.d)), some (.int (d : Nat)), some (.int r5), some (.int r12), some m1.d, some m2.d] = .ok false := by
        cases c : (r5 == 2) with
        | true => exact andTT (binTE rfl rfl (by rw [dEq_int, c])) (binTE rfl rfl (by rw [neNil hok, hx]; rfl))
        | false => exact andTF (binTE rfl rfl (by rw [dEq_int, c]))
      refine seqM (ifUF z1 (ifUF z2 (upSN rfl ?_)))
      refine wish_end (by omega) fun m' => hq _ _ ⟨ws ++ [⟨m1, m2, m'⟩], _, _, _, _, _, ?_, ok_snoc hw hm1 hm2, ?_, ?_, rfl⟩
      · rw [List.length_append, List.length_append, hl]; rfl
      · omega
      · rw [List.length_append, List.length_singleton]; omega
    · have hx : xs.isEmpty = false := by simpa using hx
      have hp : 0 < xs.length := by
        cases xs with
        | nil => cases hx
        | cons a l => exact Nat.succ_pos _
      by_cases c : r5 < 2
      · have z1 : fAndT (fBinT dLt (fVar 5) (fC (.int 2))) (fBinT dNe (fVar 1) (fLst fNil)) [some .st, some (txs xs), some (.int k), some (.lst (ws.map Wi.d)), some (.int (d : Nat)), some (.int r5), some (.int r12), some m1.d, some m2.d] = .ok true :=
          andTT (binTE rfl rfl (by show some (D.bl (decide (r5 < 2))) = _; rw [decide_eq_true c])) (binTE rfl rfl (by rw [neNil hok, hx]; rfl))
        refine seqM (ifUT z1 ?_)
        refine ⟨rfl, one_strs hp (by omega) (by omega) fun y1 hy1 => ⟨show 2 ≤ 1000 by decide, rfl, one_strs hp (by omega) (by omega) fun y2 hy2 => ⟨show 2 ≤ 1000 by decide, ?_⟩⟩⟩
        refine wish_end (one := .done y1) (other := .done y2) (by omega) fun m' => hq _ _ ⟨ws ++ [⟨.done y1, .done y2, m'⟩], _, _, _, _, _, ?_, ok_snoc (one := .done y1) (other := .done y2) hw hy1 hy2, ?_, ?_, rfl⟩
        · rw [List.length_append, List.length_append, hl]; rfl
        · omega
        · rw [List.length_append, List.length_singleton]; omega
      · have z1 : fAndT (fBinT dLt (fVar 5) (fC (.int 2))) (fBinT dNe (fVar 1) (fLst fNil)) [some .st, some (txs xs), some (.int k), some (.lst (ws.map Wi.d)), some (.int (d : Nat)), some (.int r5), some (.int r12), some m1.d, some m2.d] = .ok false :=
          andTF (binTE rfl rfl (by show some (D.bl (decide (r5 < 2))) = _; rw [decide_eq_false c]))
        refine seqM (ifUF z1 ?_)
        cases c2 : (r5 == 2) with
        | true =>
          have z2 : fAndT (fBinT dEq (fVar 5) (fC (.int 2))) (fBinT dNe (fVar 1) (fLst fNil)) [some .st, some (txs xs), some (.int k), some (.lst (ws.map Wi.d)), some (.int (d : Nat)), some (.int r5), some (.int r12), some m1.d, some m2.d] = .ok true := andTT (binTE rfl rfl (by rw [dEq_int, c2])) (binTE rfl rfl (by rw [neNil hok, hx]; rfl))
          have zm : fBin dAdd (fC (.int 8)) (fBin dMul (fC (.int 2)) (fVar 6)) [some .st, some (txs xs), some (.int k), some (.lst (ws.map Wi.d)), some (.int (d : Nat)), some (.int r5), some (.int r12), some m1.d, some m2.d] = .ok (.int (8 + 2 * r12)) := binE rfl (binE rfl rfl rfl) rfl
          refine ifUT z2 ?_
          refine ⟨rfl, one_strs hp (by omega) (by omega) fun y1 hy1 => ⟨show 2 ≤ 1000 by decide, upE zm ?_⟩⟩
          refine wish_end (one := .clock) (other := .done y1) (by omega) fun m' => hq _ _ ⟨ws ++ [⟨.clock, .done y1, m'⟩], _, _, _, _, _, ?_, ok_snoc (one := .clock) (other := .done y1) hw trivial hy1, ?_, ?_, rfl⟩
          · rw [List.length_append, List.length_append, hl]; rfl
          · omega
          · rw [List.length_append, List.length_singleton]; omega
        | false =>
          have z2 : fAndT (fBinT dEq (fVar 5) (fC (.int 2))) (fBinT dNe (fVar 1) (fLst fNil)) [some .st, some (txs xs), some (.int k), some (.lst (ws.map Wi.d)), some (.int (d : Nat)), some (.int r5), some (.int r12), some m1.d, some m2.d] = .ok false := andTF (binTE rfl rfl (by rw [dEq_int, c2]))
          refine ifUF z2 (upSN rfl ?_)
          refine wish_end (by omega) fun m' => hq _ _ ⟨ws ++ [⟨m1, m2, m'⟩], _, _, _, _, _, ?_, ok_snoc hw hm1 hm2, ?_, ?_, rfl⟩
          · rw [List.length_append, List.length_append, hl]; rfl
          · omega
          · rw [List.length_append, List.length_singleton]; omega
/-! ### hangings, waits -/
theorem hung_snoc : ∀ {l : Anc} {up : List Str} {x a : Str}, Hung l up → (a = "clock" ∨ a ∈ up ++ keys l) → Hung (l ++ [(x, a)]) up
  | [], up, x, a, _, h => ⟨by rw [keys, List.map_nil, List.append_nil] at h; exact h, trivial⟩
  | (y, b) :: l, up, x, a, hl, h => ⟨hl.1, hung_snoc hl.2 (by rw [List.append_assoc]; exact h)⟩
theorem M__law_hung : Meets 2 N__law_hung sp__law_hung B__law_hung := by
  intro ds n Q xq hl h
  obtain ⟨xs, rfl, h1, hn, hok, h2, q⟩ := h
  unfold B__law_hung
  refine ⟨show 3 < 6 by decide, rfl, mix_strs h1 hok (by omega) fun ys hp => ?_⟩
  have hyn : ys.Nodup := hp.nodup_iff.mpr hn
  have hyl : ys.length = xs.length := hp.length_eq
  show sSeq (sFor (up (fEnum (fVar 2))) _ _) _ xq _ [some .st, some (txs xs), some (txs ys), some (.dic []), none, none] (n + xs.length)
  refine seqM (forU (i := fEnum (fVar 2)) (enumE (d := txs ys) (ds := ys.map .str) rfl rfl) ?_)
  refine sfor_enum D.str (fun acc s m => ∃ (l : Anc) (x4 x5 : Option D), keys l = acc ∧ Hung l [] ∧ m = n + xs.length + acc.length ∧ s = [some .st, some (txs xs), some (txs ys), some (.dic (mapD .str l)), x4, x5]) ys ⟨[], none, none, rfl, trivial, by simp, rfl⟩ ?_ ?_
  · rintro s' n' ⟨l, x4, x5, hk, hb, rfl, rfl⟩
    have := q l (by show (keys l).Perm xs; rw [hk]; exact hp) hb
    rw [show n + 2 * xs.length = n + xs.length + ys.length by omega] at this
    exact this
  · rintro acc d post s m de' e ⟨l, x4, x5, hk, hb, rfl, rfl⟩ hq
    have hlt := len_pre e
    have e1 : fBin dAdd (fLst (fCons (fC (.str "clock")) fNil)) (fSl (fVar 2) fNone (fSome (fVar 4))) [some .st, some (txs xs), some (txs ys), some (.dic (mapD .str l)), some (.int (acc.length : Nat)), some (.str d)] = .ok (txs ("clock" :: acc)) := by
      refine binE (x := .lst [.str "clock"]) (y := txs acc) rfl ?_ ?_
      · show Res.ok (D.lst (cutL (ys.map D.str) none (some (acc.length : Int)))) = _
        rw [cut_to, ← List.map_take, ← e, List.take_left' rfl]
      · show (if 1 + (acc.map D.str).length ≤ LIM then some (D.lst ([.str "clock"] ++ acc.map D.str)) else none) = _
        rw [if_pos (by rw [List.length_map]; unfold LIM; omega)]
        rfl
    refine ⟨_, rfl, dputM (callM (ds := [.st, txs ("clock" :: acc)]) (consE rfl (consE e1 rfl)) rfl (one_strs (by rw [List.length_cons]; omega) (by rw [List.length_cons]; omega) (by omega) fun a ha => ⟨.inr d, mapD .str l, rfl, rfl, ?_, ?_⟩))⟩
    · have : l.length = acc.length := by rw [← hk, List.length_map]
      unfold mapD
      rw [List.length_map]
      exact lim_of (by omega)
    · refine hq _ _ ⟨l ++ [(d, a)], some (.int (acc.length : Nat)), some (.str d), ?_, hung_snoc hb ?_, ?_, ?_⟩
      · show (l ++ _).map (·.1) = _
        rw [List.map_append]
        show keys l ++ [d] = _
        rw [hk]
      · rw [List.nil_append, hk]
        exact List.mem_cons.mp ha
      · rw [List.length_append, List.length_singleton]; omega
      · rw [← put_new (f := D.str) (by show d ∉ keys l; rw [hk]; exact nd_pre hyn e)]
        rfl
theorem merge_go {α : Type} {f : α → D} : ∀ (r acc : List (Str × α)), (keys acc ++ keys r).Nodup → mergeD (mapD f acc) (mapD f r) = mapD f (acc ++ r)
  | [], acc, _ => by rw [List.append_nil]; rfl
  | (x, a) :: r, acc, hn => by
    have hx : x ∉ keys acc := fun z => (List.nodup_append.mp hn).2.2 _ z _ List.mem_cons_self rfl
    have := merge_go (f := f) r (acc ++ [(x, a)]) (by rw [keys, List.map_append, List.append_assoc]; exact hn)
    rw [List.append_assoc] at this
    rw [← put_new (f := f) hx] at this
    exact this
theorem merge_nd {α : Type} {f : α → D} {r : List (Str × α)} (hn : (keys r).Nodup) : mergeD [] (mapD f r) = mapD f r := merge_go (f := f) r [] hn
theorem pairsK_map {α : Type} {f : α → D} : ∀ r : List (Str × α), pairsK (r.map fun p => .tup [.str p.1, f p.2]) = some (mapD f r)
  | [] => rfl
  | (x, a) :: r => by
    rw [List.map_cons, pairsK, pairsK_map r]
    rfl
theorem dDict_map {α : Type} {f : α → D} {r : List (Str × α)} (hn : (keys r).Nodup) : dDict [.lst (r.map fun p => .tup [.str p.1, f p.2])] = some (.dic (mapD f r)) := by
  show (pairsK _).map _ = _
  rw [pairsK_map]
  show some (D.dic (mergeD [] (mapD f r))) = _
  rw [merge_nd hn]
theorem M__law_waiting : Meets 2 N__law_waiting sp__law_waiting B__law_waiting := by
  intro ds n Q xq hl h
  obtain ⟨l, rfl, h1, hn, h2, q⟩ := h
  unfold B__law_waiting
  refine ⟨mapD .str l, rfl, by rw [keys_map, List.length_map, List.length_map]; unfold LIM; omega, ?_⟩
  rw [keys_map]
  refine slc_acc D.str (fun acc xs m => ∃ r : Row, keys r = acc ∧ (∀ p ∈ r, l.lookup p.1 = some p.2.1 ∧ 0 ≤ p.2.2 ∧ p.2.2 < 8) ∧ xs = r.map (fun p => .tup [.str p.1, rD p.2]) ∧ m = n + acc.length) (l.map (·.1)) ⟨[], rfl, (fun _ z => nomatch z), rfl, by simp⟩ ?_ ?_
  · rintro xs n' ⟨r, hk, hr, rfl, rfl⟩
    refine ⟨_, dDict_map (by rw [hk]; exact hn), ?_⟩
    rw [List.length_map]
    refine q r ?_ fun x hx => (hr x hx).2
    -- the rows are those of l
    have key : ∀ (r : Row) (l' : Anc), keys r = keys l' → (∀ p ∈ r, l'.lookup p.1 = some p.2.1) → (keys l').Nodup → r.map (fun r => (r.1, r.2.1)) = l' := by
      intro r
      induction r with
      | nil => intro l' hk _ _; cases l' with
        | nil => rfl
        | cons a b => cases hk
      | cons p r ih =>
        intro l' hk hr hn
        cases l' with
        | nil => cases hk
        | cons a l' =>
          have hk1 : p.1 = a.1 := (List.cons.inj hk).1
          have hk2 : keys r = keys l' := (List.cons.inj hk).2
          have h0 := hr p List.mem_cons_self
          have hn' : a.1 ∉ keys l' ∧ (keys l').Nodup := List.nodup_cons.mp hn
          rw [List.map_cons, ih l' hk2 (fun q hq => by
            have := hr q (List.mem_cons_of_mem _ hq)
            rw [List.lookup_cons] at this
            have hne : (q.1 == a.1) = false := by
              simp only [beq_eq_false_iff_ne]
              intro z
              exact hn'.1 (by rw [← z, ← hk2]; exact List.mem_map.mpr ⟨q, hq, rfl⟩)
            rw [hne] at this
            exact this) hn'.2]
          obtain ⟨a1, a2⟩ := a
          rw [hk1, List.lookup_cons] at h0
          simp only [beq_self_eq_true] at h0
          cases h0
          rw [hk1]
    exact key r l hk (fun p hp => (hr p hp).1) hn
  · rintro acc d post xs m Q' e ⟨r, hk, hr, rfl, rfl⟩ hq
    have hlt := len_pre e
    rw [List.length_map] at hlt
    have hd : d ∈ keys l := by show d ∈ l.map (·.1); rw [← e]; exact List.mem_append_right _ List.mem_cons_self
    obtain ⟨a, ea⟩ := look_mem hd
    refine ⟨_, rfl, tupM (consU rfl (consM (tupM (consU (d := .str a) (binE rfl rfl (by rw [dIdx_map, ea]; rfl)) (consM (callM rfl rfl (take_run (by decide) (by decide) (by omega) fun t t0 t1 => nilU ⟨show 2 ≤ 1000 by decide, nilU ⟨show 2 ≤ 1000 by decide, ?_⟩⟩)))))))⟩
    refine hq _ _ ⟨r ++ [(d, (a, t))], ?_, ?_, ?_, ?_⟩
    · show (r ++ _).map (·.1) = _
      rw [List.map_append]
      show keys r ++ [d] = _
      rw [hk]
    · intro p hp
      rcases List.mem_append.mp hp with z | z
      · exact hr p z
      · rw [List.mem_singleton.mp z]
        exact ⟨ea, t0, t1⟩
    · rw [List.map_append]; rfl
    · rw [List.length_append, List.length_singleton]; omega
end DL
namespace DL
open PySem PySem.Spec PyProof.Rows L2
variable [TabC]
theorem M__law_meal : Meets 4 N__law_meal sp__law_meal B__law_meal := by
  intro ds n Q xq hl h
  obtain ⟨k, w, m, rfl, hw0, hw1, hm, hn, q⟩ := h
  unfold B__law_meal
  refine seqM (setM (callM rfl rfl ⟨k, rfl, by omega, fun ys hp => ?_⟩))
  obtain ⟨nm, hnm⟩ : ∃ nm, nm = ys.take k := ⟨_, rfl⟩
  rw [← hnm]
  have yl : ys.length = 16 := hp.length_eq
  have nl : nm.length = min k 16 := by rw [hnm, List.length_take, yl]
  have ng : ∀ x ∈ nm, x ∈ NAMES := fun x hx => hp.subset (List.mem_of_mem_take (hnm ▸ hx))
  have nnd : nm.Nodup := by
    have h1 : ys.Nodup := hp.nodup_iff.mpr (by decide +kernel)
    rw [hnm]
    exact h1.sublist (List.take_sublist _ _)
  have nok : ∀ x ∈ nm, sOk x := fun x hx => (names_good (ng x hx)).ok
  try dsimp only
  refine seqM (setM (callM rfl rfl ⟨nm, w, rfl, by omega, nnd, nok, hw0, hw1, by omega, fun bs hbp hbb => ?_⟩))
  try dsimp only
  refine retM (tupM (consU rfl (consM (callM rfl rfl ⟨nm, m, rfl, by omega, nok, hm, by omega, fun ws n1 wl hws a1 b1 => nilU ⟨show 2 ≤ 1000 by decide, ?_⟩⟩))))
  have hbl : bs.length = nm.length := by have := hbp.length_eq; rw [List.length_map] at this; exact this
  refine q bs ws n1 (hbp.nodup_iff.mpr nnd) (fun x hx => ng x (hbp.subset hx)) (by omega) hbb wl (fun x hx => ⟨Mo.ok_perm (fun y hy => hbp.symm.subset hy) (hws x hx).1, Mo.ok_perm (fun y hy => hbp.symm.subset hy) (hws x hx).2⟩) (by omega) (by omega)
end DL
namespace DL
open PySem PySem.Spec PyProof.Rows L2
variable [TabC]
/-! ### the same thing is the same -/
def Pl : Nat → D → Prop
  | _, .int _ => True
  | _, .bl _ => True
  | _, .non => True
  | _, .str x => sOk x
  | _, .dic kvs => kvs = []
  | k + 1, .lst xs => xs.length ≤ 1000 ∧ ∀ x ∈ xs, Pl k x
  | k + 1, .tup xs => xs.length ≤ 1000 ∧ ∀ x ∈ xs, Pl k x
  | _, _ => False
theorem zip_self (xs : List D) : zipD xs xs = xs.map fun x => .tup [x, x] := by
  induction xs with
  | nil => rfl
  | cons x xs ih => rw [zipD, ih]; rfl
theorem bools_true {α : Type} : ∀ xs : List α, boolsD (xs.map fun _ => .bl true) = some (xs.map fun _ => true)
  | [] => rfl
  | x :: xs => by
    rw [List.map_cons]
    show (boolsD _).map _ = _
    rw [bools_true xs]
    rfl
theorem all_true {α : Type} (xs : List α) : dAll [.lst (xs.map fun _ => .bl true)] = some (.bl true) := by
  show (boolsD _).map _ = _
  rw [bools_true]
  show some (D.bl ((xs.map fun _ => true).all id)) = _
  rw [List.all_map]
  simp
theorem v_same : ∀ (k : Nat) (d : D), Pl k d → r__law_same (k + 1) [d, d] = .ok (.bl true)
  | k, .int i, _ => by
    rw [r__law_same]
    exact runB_rt (seqN (ifsF rfl rfl) (seqR (ifsT rfl (retE (andT rfl (andT rfl (binE rfl rfl (show dEq (.int i) (.int i) = some (.bl true) by rw [dEq_int]; simp))))))))
  | k, .bl i, _ => by
    rw [r__law_same]
    exact runB_rt (seqN (ifsF rfl rfl) (seqR (ifsT rfl (retE (andT rfl (andT rfl (binE rfl rfl (by cases i <;> rfl))))))))
  | k, .non, _ => by
    rw [r__law_same]
    exact runB_rt (seqN (ifsF rfl rfl) (seqN (ifsF rfl rfl) (retE (andT rfl (binE rfl rfl rfl)))))
  | k, .dic kvs, h => by
    have h : kvs = [] := by cases k <;> exact h
    subst h
    rw [r__law_same]
    exact runB_rt (seqN (ifsF rfl rfl) (seqN (ifsF rfl rfl) (retE (andT rfl (binE rfl rfl rfl)))))
  | k, .str x, h => by
    have h : sOk x := by cases k <;> exact h
    rw [r__law_same]
    exact runB_rt (seqN (ifsF rfl rfl) (seqN (ifsF rfl rfl) (retE (andT rfl (binE rfl rfl (show dEq (.str x) (.str x) = some (.bl true) by rw [dEq_str h h]; simp))))))
  | k + 1, .lst xs, h => by
    rw [r__law_same]
    refine runB_rt (seqR (ifsT rfl (seqN (ifsF rfl rfl) (retE (andT (binE rfl rfl (show dEq (.int xs.length) (.int xs.length) = some (.bl true) by rw [dEq_int]; simp)) (bltE (consE (lcE (ds := zipD xs xs) rfl ?_ ?_) rfl) (all_true xs)))))))
    · rw [zip_self, List.length_map]; have := h.1; unfold LIM; omega
    · rw [zip_self]
      exact lc_map (fun x => D.tup [x, x]) (fun _ => .bl true) xs fun x hx => ⟨_, rfl, callE (ds := [x, x]) rfl rfl (v_same k x (h.2 x hx))⟩
  | k + 1, .tup xs, h => by
    rw [r__law_same]
    refine runB_rt (seqR (ifsT rfl (seqN (ifsF rfl rfl) (retE (andT (binE rfl rfl (show dEq (.int xs.length) (.int xs.length) = some (.bl true) by rw [dEq_int]; simp)) (bltE (consE (lcE (ds := zipD xs xs) rfl ?_ ?_) rfl) (all_true xs)))))))
    · rw [zip_self, List.length_map]; have := h.1; unfold LIM; omega
    · rw [zip_self]
      exact lc_map (fun x => D.tup [x, x]) (fun _ => .bl true) xs fun x hx => ⟨_, rfl, callE (ds := [x, x]) rfl rfl (v_same k x (h.2 x hx))⟩
  | 0, .lst _, h => h.elim
  | 0, .tup _, h => h.elim
  | 0, .raw _, h => h.elim
  | 0, .st, h => h.elim
  | 0, .obj _ _, h => h.elim
  | _ + 1, .raw _, h => h.elim
  | _ + 1, .st, h => h.elim
  | _ + 1, .obj _ _, h => h.elim
theorem v_same6 {d : D} (h : Pl 5 d) : f__law_same [d, d] = .ok (.bl true) := v_same 5 d h
end DL
namespace DL
open PySem PySem.Spec PyProof.Rows L2
variable [TabC]
/-! ### hangings -/
theorem v_hanging {l : Anc} {rk : Str → Nat} (A : Acy l rk) : f_Hanging___init__ [.dic (mapD .str l)] = .ok (hangD (sortK l)) := by
  have hl := A.len
  obtain ⟨s', e, x2, x3, rfl⟩ := for_inv (g := fgTp (fgsCons (fgNm 2) (fgsCons (fgNm 3) fgsNil))) (b := b_Hanging___init___1) (fun s => ∃ x2 x3, s = [some (.obj "Hanging" []), some (.dic (mapD .str l)), x2, x3]) (itemsD (mapD .str l)) [some (.obj "Hanging" []), some (.dic (mapD .str l)), none, none] ⟨_, _, rfl⟩ (fun d hd s ⟨x2, x3, hs⟩ => by
    subst hs
    rw [items_map] at hd
    obtain ⟨p, hp, rfl⟩ := List.mem_map.mp hd
    have hk : p.1 ∈ keys l := List.mem_map.mpr ⟨p, hp, rfl⟩
    refine ⟨_, rfl, _, ifsF (orTF (notTE (valE (callE (ds := [.str p.1]) rfl rfl (A.good _ hk).nm))) (notTE (valE (callE (ds := [.str p.2, .dic (mapD .str l)]) rfl rfl (v_is_anchor A.good ?_))))) rfl, _, _, rfl⟩
    exact (A.up p.1 p.2 (look_of A.nd hp)).imp id (·.1))
  have ed : fDc (fIter (fCall 1 f_rising [] (fCons (fBlt dList (fCons (fVar 1) fNil)) fNil))) [2] (fgNm 2) fYes (fVar 2) (fBin dIdx (fVar 1) (fVar 2)) [some (.obj "Hanging" []), some (.dic (mapD .str l)), x2, x3] = .ok (.dic (mapD .str (sortK l))) := by
    refine dcE (ds := (rise (keys l)).map .str) (iterE (callE (ds := [txs (keys l)]) (consE (bltE rfl (dList_map _ _)) rfl) rfl (v_rising (by rw [List.length_map]; omega))) rfl) (by rw [List.length_map, rise_len, List.length_map]; unfold LIM; omega) ?_
    refine dc_map D.str id (fun x => get l x) D.str (rise (keys l)) [] (by rw [List.map_nil, List.nil_append, List.map_id]; exact (rise_perm _).nodup_iff.mpr A.nd) fun d hd => ⟨_, rfl, rfl, binE rfl rfl (by rw [dIdx_map, look_get (mem_rise.mp hd)]; rfl)⟩
  exact runI_nx (seqN (forDE (kvs := mapD .str l) rfl e) (seqN (dropE (callE (ds := [.dic (mapD .str l)]) rfl rfl (v_check_rounds A))) (fldSE ed rfl (by decide)))) rfl
/-! ### unlike dishes -/
def unlikeX : XD := ("Unlike", [])
theorem v_check_unlike {α β : Type} {f : α → D} {g : β → D} {l : List (Str × α)} {m : List (Str × β)} (h : l.length ≠ m.length ∨ ∃ x ∈ keys l, x ∉ keys m) (hl : l.length ≤ 1000) (hm : m.length ≤ 1000) : f_check_alike [.dic (mapD f l), .dic (mapD g m)] = .ex unlikeX := by
  refine runB_ex (ifsT ((setNeE (kvs := mapD f l) (more := mapD g m) rfl (by unfold mapD; rw [List.length_map]; omega) rfl (by unfold mapD; rw [List.length_map]; omega)).trans ?_) rfl)
  have : dKeysNe (mapD f l) (mapD g m) = true := by
    unfold dKeysNe
    rw [Bool.not_eq_true', Bool.and_eq_false_iff]
    rcases h with h | ⟨x, hx, hn⟩
    · left
      unfold mapD
      rw [List.length_map, List.length_map]
      simpa using h
    · right
      rw [List.all_eq_false]
      obtain ⟨p, hp, e⟩ := List.mem_map.mp hx
      refine ⟨(.inr p.1, f p.2), List.mem_map.mpr ⟨p, hp, rfl⟩, ?_⟩
      show ¬ (lookK (mapD g m) (.inr p.1)).isSome = true
      rw [lookK_map, look_none (by rw [e]; exact hn)]
      exact Bool.false_ne_true
  rw [this]
/-! ### how much later -/
def wayO (r1 r2 : Row) (x : Str) : List Str := (chain (anc r1) x).filter fun y => !decide (y ∈ chain (anc r2) x)
theorem v_ways_of {r1 r2 : Row} {k1 k2 : Str → Nat} (B1 : BookOk r1 k1) (B2 : BookOk r2 k2) {x : Str} (h1 : x ∈ keys r1) (h2 : x ∈ keys r2) : f_ways_of [bookD r1, bookD r2, .str x] = .ok (.tup [txs (wayO r1 r2 x), txs (wayO r2 r1 x)]) := by
  have a1 : x ∈ keys (anc r1) := by rw [keys_anc]; exact h1
  have a2 : x ∈ keys (anc r2) := by rw [keys_anc]; exact h2
  have o1 : ∀ y ∈ chain (anc r1) x, sOk y := fun y hy => (B1.acy.good y (chain_rk B1.acy x a1 y hy).1).ok
  have o2 : ∀ y ∈ chain (anc r2) x, sOk y := fun y hy => (B2.acy.good y (chain_rk B2.acy x a2 y hy).1).ok
  have n1 := chain_len B1.acy x a1
  have n2 := chain_len B2.acy x a2
  have m1 := B1.bd x h1
  have m2 := B2.bd x h2
  have l1 := B1.len
  have l2 := B2.len
  refine runB_rt (seqN (asgE (d := .tup [txs (chain (anc r1) x), txs (chain (anc r2) x)]) (tupE (consE (callE (ds := [.dic (mapD .str (anc r1)), .str x]) (consE (callE (ds := [bookD r1]) rfl rfl (v_anchors_of B1.nd (by omega))) rfl) rfl (v_way_up B1.acy a1)) (consE (callE (ds := [.dic (mapD .str (anc r2)), .str x]) (consE (callE (ds := [bookD r2]) rfl rfl (v_anchors_of B2.nd (by omega))) rfl) rfl (v_way_up B2.acy a2)) rfl)) (show 2 ≤ 1000 by decide)) rfl)
    (retE (tupE (consE (lcE (ds := (chain (anc r1) x).map .str) rfl (by rw [List.length_map]; unfold LIM; omega) (lc_filter D.str (fun y => !decide (y ∈ chain (anc r2) x)) D.str (chain (anc r1) x) fun y hy => ⟨_, rfl, binTE rfl rfl (dNotIn_strs (o1 y hy) o2), fun _ => rfl⟩)) (consE (lcE (ds := (chain (anc r2) x).map .str) rfl (by rw [List.length_map]; unfold LIM; omega) (lc_filter D.str (fun y => !decide (y ∈ chain (anc r1) x)) D.str (chain (anc r2) x) fun y hy => ⟨_, rfl, binTE rfl rfl (dNotIn_strs (o2 y hy) o1), fun _ => rfl⟩)) rfl)) (show 2 ≤ 1000 by decide))))
def lagI (bs : Dis) (r1 r2 : Row) (x : Str) : Int := added r1 x + ((wayO r1 r2 x).map fun y => (get bs y).2).sum - added r2 x - ((wayO r2 r1 x).map fun y => (get bs y).1).sum
theorem way_in {r1 r2 : Row} {k1 : Str → Nat} (B1 : BookOk r1 k1) {x : Str} (h1 : x ∈ keys r1) : ∀ y ∈ wayO r1 r2 x, y ∈ keys r1 := fun y hy => by
  have := (chain_rk B1.acy x (by rw [keys_anc]; exact h1) y (List.mem_filter.mp hy).1).1
  rw [keys_anc] at this
  exact this
theorem wayO_len {r1 r2 : Row} {k1 : Str → Nat} (B1 : BookOk r1 k1) {x : Str} (h1 : x ∈ keys r1) : (wayO r1 r2 x).length ≤ 100 := by
  have n1 := chain_len B1.acy x (by rw [keys_anc]; exact h1)
  have m1 := B1.bd x h1
  have l1 := B1.len
  have := List.length_filter_le (fun y => !decide (y ∈ chain (anc r2) x)) (chain (anc r1) x)
  show ((chain (anc r1) x).filter _).length ≤ _
  omega
theorem v_lag {bs : Dis} {ws : List Wi} {st : List (List Str)} {r1 r2 : Row} {k1 k2 : Str → Nat} (B1 : BookOk r1 k1) (B2 : BookOk r2 k2) (hb1 : ∀ x ∈ keys r1, x ∈ keys bs) (hb2 : ∀ x ∈ keys r2, x ∈ keys bs) {x : Str} (h1 : x ∈ keys r1) (h2 : x ∈ keys r2) :
    f_lag [mealD bs ws st, bookD r1, bookD r2, .str x] = .ok (.int (lagI bs r1 r2 x)) := by
  have n1 := wayO_len (r2 := r2) B1 h1
  have n2 := wayO_len (r2 := r1) B2 h2
  refine runB_rt (seqN (asgE (callE (ds := [bookD r1, bookD r2, .str x]) rfl rfl (v_ways_of B1 B2 h1 h2)) rfl)
    (seqN (setE (d := .int (added r1 x + ((wayO r1 r2 x).map fun y => (get bs y).2).sum)) (binE (methE rfl rfl (ds := [.str x]) rfl rfl (v_added B1 h1)) (bltE (d := .int ((wayO r1 r2 x).map fun y => (get bs y).2).sum) (consE (lcE (ds := (wayO r1 r2 x).map .str) rfl (by rw [List.length_map]; unfold LIM; omega) (lc_map D.str (fun y => .int (get bs y).2) (wayO r1 r2 x) fun y hy => ⟨_, rfl, binE (binE (fldE rfl rfl) rfl (by rw [dIdx_map, look_get (hb1 y (way_in B1 h1 y hy))]; rfl)) rfl rfl⟩)) rfl) ?_) rfl))
      (retE (binE (binE rfl (methE rfl rfl (ds := [.str x]) rfl rfl (v_added B2 h2)) rfl) (bltE (d := .int ((wayO r2 r1 x).map fun y => (get bs y).1).sum) (consE (lcE (ds := (wayO r2 r1 x).map .str) rfl (by rw [List.length_map]; unfold LIM; omega) (lc_map D.str (fun y => .int (get bs y).1) (wayO r2 r1 x) fun y hy => ⟨_, rfl, binE (binE (fldE rfl rfl) rfl (by rw [dIdx_map, look_get (hb2 y (way_in B2 h2 y hy))]; rfl)) rfl rfl⟩)) rfl) ?_) rfl))))
  · show (intsD _).map (fun bs => D.int bs.sum) = _
    rw [ints_map]
    rfl
  · show (intsD _).map (fun bs => D.int bs.sum) = _
    rw [ints_map]
    rfl
theorem v_check_both {bs : Dis} {ws : List Wi} {st : List (List Str)} {r1 r2 : Row} (hn : (keys bs).Nodup) (hl : bs.length ≤ 1000) (h1 : (keys bs).Perm (keys r1)) (h2 : (keys bs).Perm (keys r2)) : f_check_both [mealD bs ws st, bookD r1, bookD r2] = .ok .non :=
  runB_nx (seqN (dropE (callE (ds := [.dic (mapD bD bs), .dic (mapD rD r1)]) (consE (fldE rfl rfl) (consE (fldE rfl rfl) rfl)) rfl (v_check_alike hn h1 hl))) (dropE (callE (ds := [.dic (mapD bD bs), .dic (mapD rD r2)]) (consE (fldE rfl rfl) (consE (fldE rfl rfl) rfl)) rfl (v_check_alike hn h2 hl))))
def gainsI (bs : Dis) (r1 r2 : Row) : List (Str × Int × Int) := (keys bs).map fun x => (x, (0 - lagI bs r1 r2 x, lagI bs r2 r1 x))
theorem v_gains {bs : Dis} {ws : List Wi} {st : List (List Str)} {r1 r2 : Row} {k1 k2 : Str → Nat} (B1 : BookOk r1 k1) (B2 : BookOk r2 k2) (hn : (keys bs).Nodup) (hl : bs.length ≤ 1000) (h1 : (keys bs).Perm (keys r1)) (h2 : (keys bs).Perm (keys r2)) :
    f_gains [mealD bs ws st, bookD r1, bookD r2] = .ok (.dic (mapD bD (gainsI bs r1 r2))) := by
  refine runB_rt (seqN (dropE (callE (ds := [mealD bs ws st, bookD r1, bookD r2]) rfl rfl (v_check_both hn hl h1 h2))) (retE (dcDE (kvs := mapD bD bs) rfl (by rw [keys_map, List.length_map, List.length_map]; unfold LIM; omega) ?_)))
  rw [keys_map]
  refine dc_map D.str id (fun x => (0 - lagI bs r1 r2 x, lagI bs r2 r1 x)) bD (keys bs) [] (by rw [List.map_nil, List.nil_append, List.map_id]; exact hn) fun d hd => ⟨_, rfl, rfl, tupE (consE (binE rfl (callE (ds := [mealD bs ws st, bookD r1, bookD r2, .str d]) rfl rfl (v_lag B1 B2 (fun x hx => h1.symm.subset hx) (fun x hx => h2.symm.subset hx) (h1.subset hd) (h2.subset hd))) rfl) (consE (callE (ds := [mealD bs ws st, bookD r2, bookD r1, .str d]) rfl rfl (v_lag B2 B1 (fun x hx => h2.symm.subset hx) (fun x hx => h1.symm.subset hx) (h2.subset hd) (h1.subset hd))) rfl)) (show 2 ≤ 1000 by decide)⟩
end DL
namespace DL
open PySem PySem.Spec PyProof.Rows L2
variable [TabC]
theorem asgM {m : EM D} {g : FG} {xq : XQ} {de : DE} {s : Ev} {n : Nat} (h : m xq s n fun d n' => ∃ s', g d s = some s' ∧ de.nx s' n') : sAsg m (upG g) xq de s n := h
theorem bltMC {f : List D → Option D} {m : EM D} {xq : XQ} {s : Ev} {n : Nat} {Q : D → Nat → Prop} (h : m xq s n fun x n1 => ∃ d, f [x] = some d ∧ Q d n1) : eBlt f (eCons m (up fNil)) xq s n Q := h
theorem lcU {i : FM (List D)} {hs : List Nat} {g : DG} {t : EM Bool} {e : EM D} {xq : XQ} {s : Ev} {n : Nat} {Q : D → Nat → Prop} {ds : List D} (h : i s = .ok ds) (hl : ds.length ≤ LIM) (q : sLcL g t e (fun _ _ => False) (hideL s hs) ds n [] fun xs n2 => Q (.lst xs) n2) : eLc (up i) hs g t e xq s n Q := by
  unfold eLc up
  rw [h]
  exact ⟨hl, q⟩
theorem lcM {i : EM (List D)} {hs : List Nat} {g : DG} {t : EM Bool} {e : EM D} {xq : XQ} {s : Ev} {n : Nat} {Q : D → Nat → Prop} (q : i xq s n fun ds n1 => ds.length ≤ LIM ∧ sLcL g t e (fun _ _ => False) (hideL s hs) ds n1 [] fun xs n2 => Q (.lst xs) n2) : eLc i hs g t e xq s n Q := q
theorem iterM {m : EM D} {xq : XQ} {s : Ev} {n : Nat} {Q : List D → Nat → Prop} (q : m xq s n fun d n' => ∃ ds, dIter d = some ds ∧ Q ds n') : eIter m xq s n Q := q
theorem cut_from (xs : List D) (k : Nat) : cutL xs (some (k : Int)) none = xs.drop k := by
  unfold cutL
  rw [HT.sIx_none, HT.sIx_nat]
  rcases Nat.le_total k xs.length with h | h
  · rw [Nat.min_eq_left h, List.take_of_length_le]
    rw [List.length_drop]
    exact Nat.le_refl _
  · rw [Nat.min_eq_right h, Nat.sub_self, List.take_zero, List.drop_eq_nil_of_le h]
theorem v_meal0L {l : Dis} (B : DishOk l) {tp : Bool} {ws : List Wi} (hw : ∀ w ∈ ws, w.ok (keys l)) (hl : ws.length ≤ 1000) : f_Meal___init__ [.dic (mapD bD l), rowD tp (ws.map Wi.d), .lst []] = .ok (mealD (sortK l) ws []) := by
  have hlen := B.len
  obtain ⟨s', e, x4, x5, x6, x7, rfl⟩ := for_inv (g := fgTp (fgsCons (fgNm 4) (fgsCons (fgNm 5) fgsNil))) (b := b_Meal___init___1) (fun s => ∃ x4 x5 x6 x7, s = [some (.obj "Meal" []), some (.dic (mapD bD l)), some (rowD tp (ws.map Wi.d)), some (.lst []), x4, x5, x6, x7]) (itemsD (mapD bD l)) [some (.obj "Meal" []), some (.dic (mapD bD l)), some (rowD tp (ws.map Wi.d)), some (.lst []), none, none, none, none] ⟨_, _, _, _, rfl⟩ (fun d hd s ⟨x4, x5, x6, x7, hs⟩ => by
    subst hs
    rw [items_map] at hd
    obtain ⟨p, hp, rfl⟩ := List.mem_map.mp hd
    have hk : p.1 ∈ keys l := List.mem_map.mpr ⟨p, hp, rfl⟩
    have hb := B.bd p hp
    exact ⟨_, rfl, _, ifsF (orTF (notTE (valE (callE (ds := [.str p.1]) rfl rfl (B.good _ hk).nm))) (notTE (valE (callE (ds := [bD p.2]) rfl rfl (v_bounds hb.1 hb.2))))) rfl, _, _, _, _, rfl⟩)
  have ed : fDc (fIter (fCall 1 f_rising [] (fCons (fBlt dList (fCons (fVar 1) fNil)) fNil))) [4] (fgNm 4) fYes (fVar 4) (fBlt dTuple (fCons (fBin dIdx (fVar 1) (fVar 4)) fNil)) [some (.obj "Meal" []), some (.dic (mapD bD l)), some (rowD tp (ws.map Wi.d)), some (.lst []), x4, x5, x6, x7] = .ok (.dic (mapD bD (sortK l))) := by
    refine dcE (ds := (rise (keys l)).map .str) (iterE (callE (ds := [txs (keys l)]) (consE (bltE rfl (dList_map _ _)) rfl) rfl (v_rising (by rw [List.length_map]; omega))) rfl) (by rw [List.length_map, rise_len, List.length_map]; unfold LIM; omega) ?_
    refine dc_map D.str id (fun x => get l x) bD (rise (keys l)) [] (by rw [List.map_nil, List.nil_append, List.map_id]; exact (rise_perm _).nodup_iff.mpr B.nd) fun d hd => ⟨_, rfl, rfl, bltE (consE (binE rfl rfl (by rw [dIdx_map, look_get (mem_rise.mp hd)]; rfl)) rfl) rfl⟩
  refine runI_nx (seqN (forDE (kvs := mapD bD l) rfl e) (seqN (fldSE ed rfl (by decide)) (seqN (fldSE (callE (ds := [rowD tp (ws.map Wi.d), .dic (mapD bD (sortK l))]) (consE rfl (consE (fldE rfl rfl) rfl)) rfl (v_checked_wishes (fun w h => ?_) hl)) rfl (show 1 < 1000 by decide)) (seqN (ifsF rfl rfl) (seqN (forE (ds := []) rfl rfl) (fldSE rfl rfl (show 2 < 1000 by decide))))))) rfl
  have := hw w h
  unfold Wi.ok at this ⊢
  rw [keys_sort]
  refine ⟨?_, ?_⟩
  · have h1 := this.1
    cases hm : w.one with
    | clock => trivial
    | start x => rw [hm] at h1; exact mem_rise.mpr h1
    | done x => rw [hm] at h1; exact mem_rise.mpr h1
  · have h1 := this.2
    cases hm : w.other with
    | clock => trivial
    | start x => rw [hm] at h1; exact mem_rise.mpr h1
    | done x => rw [hm] at h1; exact mem_rise.mpr h1
theorem binTMU {f : D → D → Option D} {m : EM D} {b : FM D} {y : D} {xq : XQ} {s : Ev} {n : Nat} {Q : Bool → Nat → Prop} (hb : b s = .ok y) (h : m xq s n fun x n1 => ∃ k, f x y = some (.bl k) ∧ Q k n1) (mn : Mn m) : eBinT f m (up b) xq s n Q := by
  unfold eBinT
  refine mn _ _ _ _ _ (fun x n1 q => ?_) h
  unfold up
  rw [hb]
  exact q
/-- some of them, as drawn -/
theorem slc_some {g : FG} {mt : EM Bool} {me : EM D} {xq : XQ} {s0 : Ev} {Q : List D → Nat → Prop} (L : List D) (n0 : Nat) (hd : ∀ ys, ys.Sublist L → Q ys (n0 + L.length))
    (st : ∀ d (n : Nat) (Q' : List D → Nat → Prop) (acc : List D) (r : List D → Nat → Prop), n < n0 + L.length → r (acc ++ [d]) (n + 1) → r acc (n + 1) → ∃ s1, g d s0 = some s1 ∧ mt xq s1 n fun c n1 => if c = true then me xq s1 n1 fun x n2 => r (acc ++ [x]) n2 else r acc n1) : ∀ (ds pre acc : List D), pre ++ ds = L → acc.Sublist pre → sLcL (upG g) mt me xq s0 ds (n0 + pre.length) acc Q
  | [], pre, acc, e, h => by
    rw [List.append_nil] at e
    subst e
    exact hd acc h
  | d :: ds, pre, acc, e, h => by
    have e2 : (pre ++ [d]) ++ ds = L := by rw [List.append_assoc]; exact e
    have h1 := slc_some L n0 hd st ds (pre ++ [d]) (acc ++ [d]) e2 (h.append (List.Sublist.refl _))
    have h2 := slc_some L n0 hd st ds (pre ++ [d]) acc e2 (h.trans (List.sublist_append_left _ _))
    rw [List.length_append, List.length_singleton, ← Nat.add_assoc] at h1 h2
    have hl : pre.length < L.length := by rw [← e, List.length_append, List.length_cons]; omega
    obtain ⟨s1, e1, w⟩ := st d (n0 + pre.length) Q acc (fun xs n2 => sLcL (upG g) mt me xq s0 ds n2 xs Q) (by omega) h1 h2
    exact ⟨s1, e1, w⟩
end DL
namespace DL
open PySem PySem.Spec PyProof.Rows L2
variable [TabC]
/-! ### errors that leave -/
section
variable {a b : FM D} {l : FM (List D)} {s : Ev} {x : XD} {d : D}
theorem callLX {len : Nat} {f : FFn} {dds : List D} (h : l s = .ex x) : fCall len f dds l s = .ex x := by
  unfold fCall
  rw [h]
  rfl
theorem consX1 (h : a s = .ex x) : fCons a l s = .ex x := by
  unfold fCons
  rw [h]
  rfl
theorem consX2 (h : a s = .ok d) (h2 : l s = .ex x) : fCons a l s = .ex x := by
  unfold fCons
  rw [h, h2]
  rfl
theorem setX {i : Nat} (h : a s = .ex x) : fSet i a s = .ex x := by
  unfold fSet
  rw [h]
  rfl
theorem xRet (h : a s = .ex x) : fRet a s = .ex x := by
  unfold fRet
  rw [h]
  rfl
theorem xBin {f : D → D → Option D} (h : a s = .ex x) : fBin f a b s = .ex x := by
  unfold fBin
  rw [h]
  rfl
theorem xDrop (h : a s = .ex x) : fDrop a s = .ex x := by
  unfold fDrop
  rw [h]
  rfl
theorem xIter (h : a s = .ex x) : fIter a s = .ex x := by
  unfold fIter
  rw [h]
  rfl
theorem xFor {i : FM (List D)} {g : FG} {f : FS} (h : i s = .ex x) : fFor i g f s = .ex x := by
  unfold fFor
  rw [h]
  rfl
theorem raiseE {C : Str} {fl : List Str} {ds : List D} (h : l s = .ok ds) (hl : ds.length = fl.length) : fRaise C fl l s = .ex (C, ES.fsOf fl ds) := by
  unfold fRaise
  rw [h]
  show (if ds.length = fl.length then _ else _) = _
  rw [if_pos hl]
theorem triedX {ok : TR.OKF} {hs : HS} {O : List Nat} {f : FM D} {hv : TR.HV} (h : f (hideL s O) = .ex x) (h1 : hpick hs x.1 = some hv) (h2 : hvD hv x.2 = some d) : fTried ok hs O f s = .ok d := by
  unfold fTried
  rw [h]
  show ofO ((hpick hs x.1).bind fun hv => hvD hv x.2) = _
  rw [h1]
  show ofO (hvD hv x.2) = _
  rw [h2]
  rfl
end
theorem for_ex {g : FG} {b : FS} {x : XD} (I : Ev → Prop) : ∀ (ds1 : List D) (d : D) (ds2 : List D) (s : Ev), I s → (∀ d ∈ ds1, ∀ s, I s → ∃ s1, g d s = some s1 ∧ ∃ s2, b s1 = .nx s2 ∧ I s2) → (∀ s, I s → ∃ s1, g d s = some s1 ∧ b s1 = .ex x) → fForL g b (ds1 ++ d :: ds2) s = .ex x
  | [], d, ds2, s, h, _, hx => by
    obtain ⟨s1, e1, e2⟩ := hx s h
    rw [List.nil_append, fForL, e1]
    simp only [ofO, Res.so, e2]
  | c :: ds1, d, ds2, s, h, st, hx => by
    obtain ⟨s1, e1, s2, e2, h2⟩ := st c List.mem_cons_self s h
    rw [List.cons_append, fForL, e1]
    simp only [ofO, Res.so, e2]
    exact for_ex I ds1 d ds2 s2 h2 (fun c hc => st c (List.mem_cons_of_mem _ hc)) hx
/-- no text -/
def NotStr (d : D) : Prop := ∃ t, tyD d = some t ∧ isTy t "str" = false
theorem isi_notStr {d : D} (h : NotStr d) : dIsi [d, .raw (.ty "str")] = some (.bl false) := by
  obtain ⟨t, e, z⟩ := h
  show (if isB "str" = true then (tyD d).map fun a => D.bl (isTy a "str") else none) = _
  rw [if_pos (by decide), e]
  show some (D.bl (isTy t "str")) = _
  rw [z]
theorem among_notStr {d c : D} (h : NotStr d) : f_is_among [d, c] = .ok (.bl false) := runB_rt (retE (andF (bltE rfl (isi_notStr h))))
theorem among_no {α : Type} {f : α → D} {l : List (Str × α)} {x : Str} (h : x ∉ keys l) : f_is_among [.str x, .dic (mapD f l)] = .ok (.bl false) := by
  refine runB_rt (retE (andT rfl (binE rfl rfl ?_)))
  rw [dIn_map, look_isSome, decide_eq_false h]
theorem among_lst {xs : List Str} {x : Str} (hx : sOk x) (h : ∀ x ∈ xs, sOk x) : f_is_among [.str x, txs xs] = .ok (.bl (decide (x ∈ xs))) :=
  runB_rt (retE (andT rfl (binE rfl rfl (dIn_strs hx h))))
end DL
namespace DL.K34
open PySem PySem.Spec PyProof.Rows L2
variable [TabC]
def NoDish (d : D) : XD := ("NoDish", [("name", d)])
def NoWish (d : D) : XD := ("NoWish", [("index", d)])
abbrev HSR : HS := [("NoDish", some 2, .fld "dish" "name"), ("NoWish", some 2, .fld "wish" "index")]
theorem tried_dish {O : List Nat} {f : FM D} {s : Ev} {d : D} (h : f (hideL s O) = .ex (NoDish d)) : fTried (.told "told") HSR O f s = .ok (.tup [.str "dish", d]) := triedX h rfl rfl
theorem tried_wish {O : List Nat} {f : FM D} {s : Ev} {d : D} (h : f (hideL s O) = .ex (NoWish d)) : fTried (.told "told") HSR O f s = .ok (.tup [.str "wish", d]) := triedX h rfl rfl
/-- what is no dish -/
def NoD (bs : Dis) (d : D) : Prop := f_is_among [d, .dic (mapD bD bs)] = .ok (.bl false)
section
variable {bs : Dis} {ws : List Wi} {st : List (List Str)} {pre : List Str} {first : D} {rest : List D}
abbrev badL (pre : List Str) (first : D) (rest : List D) : D := .lst (pre.map .str ++ first :: rest)
theorem looks_bad (hp : ∀ x ∈ pre, x ∈ keys bs) (hf : NoD bs first) : f_checked_looks [mealD bs ws st, badL pre first rest] = .ex (NoDish first) := by
  refine runB_ex (seqN (ifsF rfl rfl) (seqX (forE (ds := pre.map .str ++ first :: rest) rfl (for_ex (fun s => ∃ x2, s = [some (mealD bs ws st), some (badL pre first rest), x2]) _ _ _ _ ⟨_, rfl⟩ ?_ ?_))))
  · rintro d hd s ⟨x2, rfl⟩
    obtain ⟨y, hy, rfl⟩ := List.mem_map.mp hd
    exact ⟨_, rfl, _, ifsF (notTE (k := true) (valE (callE (ds := [.str y, .dic (mapD bD bs)]) (consE rfl (consE (fldE rfl rfl) rfl)) rfl (v_is_among (hp y hy))))) rfl, _, rfl⟩
  · rintro s ⟨x2, rfl⟩
    exact ⟨_, rfl, ifsT (notTE (k := false) (valE (callE (ds := [first, .dic (mapD bD bs)]) (consE rfl (consE (fldE rfl rfl) rfl)) rfl hf))) (raiseE (ds := [first]) rfl rfl)⟩
theorem looks_ok {nm : List Str} (hp : ∀ x ∈ nm, x ∈ keys bs) : f_checked_looks [mealD bs ws st, txs nm] = .ok (txs nm) := by
  obtain ⟨s', e, x2, rfl⟩ := for_inv (g := fgNm 2) (b := b_checked_looks_1) (fun s => ∃ x2, s = [some (mealD bs ws st), some (txs nm), x2]) (nm.map .str) [some (mealD bs ws st), some (txs nm), none] ⟨_, rfl⟩ (fun d hd s ⟨x2, hs⟩ => by
    subst hs
    obtain ⟨y, hy, rfl⟩ := List.mem_map.mp hd
    exact ⟨_, rfl, _, ifsF (notTE (k := true) (valE (callE (ds := [.str y, .dic (mapD bD bs)]) (consE rfl (consE (fldE rfl rfl) rfl)) rfl (v_is_among (hp y hy))))) rfl, _, rfl⟩)
  exact runB_rt (seqN (ifsF rfl rfl) (seqN (forE (ds := nm.map .str) rfl e) (retE rfl)))
theorem names_bad (hp : ∀ x ∈ pre, x ∈ keys bs) (hf : NoD bs first) : f_checked_names [mealD bs ws st, badL pre first rest] = .ex (NoDish first) := by
  refine runB_ex (seqX (forE (ds := pre.map .str ++ first :: rest) rfl (for_ex (fun s => ∃ x2, s = [some (mealD bs ws st), some (badL pre first rest), x2]) _ _ _ _ ⟨_, rfl⟩ ?_ ?_)))
  · rintro d hd s ⟨x2, rfl⟩
    obtain ⟨y, hy, rfl⟩ := List.mem_map.mp hd
    exact ⟨_, rfl, _, dropE (d := .non) (callE (ds := [.str y, .dic (mapD bD bs)]) (consE rfl (consE (fldE rfl rfl) rfl)) rfl (runB_nx (ifsF (notTE (k := true) (valE (callE (ds := [.str y, .dic (mapD bD bs)]) rfl rfl (v_is_among (hp y hy))))) rfl))), _, rfl⟩
  · rintro s ⟨x2, rfl⟩
    exact ⟨_, rfl, xDrop (callE (ds := [first, .dic (mapD bD bs)]) (consE rfl (consE (fldE rfl rfl) rfl)) rfl (runB_ex (ifsT (notTE (k := false) (valE (callE (ds := [first, .dic (mapD bD bs)]) rfl rfl hf))) (raiseE (ds := [first]) rfl rfl))))⟩
theorem names_ok2 {nm : List Str} (hp : ∀ x ∈ nm, x ∈ keys bs) : f_checked_names [mealD bs ws st, txs nm] = .ok (txs nm) := by
  obtain ⟨s', e, x2, rfl⟩ := for_inv (g := fgNm 2) (b := b_checked_names_1) (fun s => ∃ x2, s = [some (mealD bs ws st), some (txs nm), x2]) (nm.map .str) [some (mealD bs ws st), some (txs nm), none] ⟨_, rfl⟩ (fun d hd s ⟨x2, hs⟩ => by
    subst hs
    obtain ⟨y, hy, rfl⟩ := List.mem_map.mp hd
    exact ⟨_, rfl, _, dropE (d := .non) (callE (ds := [.str y, .dic (mapD bD bs)]) (consE rfl (consE (fldE rfl rfl) rfl)) rfl (runB_nx (ifsF (notTE (k := true) (valE (callE (ds := [.str y, .dic (mapD bD bs)]) rfl rfl (v_is_among (hp y hy))))) rfl))), _, rfl⟩)
  exact runB_rt (seqN (forE (ds := nm.map .str) rfl e) (retE rfl))
section
variable (hp : ∀ x ∈ pre, x ∈ keys bs) (hf : NoD bs first)
include hp hf
theorem x_book_for : f_book_for [mealD bs ws st, badL pre first rest] = .ex (NoDish first) := runB_ex (xRet (xBin (callLX (consX2 rfl (consX1 (callE (ds := [mealD bs ws st, badL pre first rest]) rfl rfl (looks_bad hp hf)))))))
theorem x_reason : f_reason [mealD bs ws st, badL pre first rest] = .ex (NoDish first) := runB_ex (xRet (xBin (callLX (consX2 rfl (consX1 (callE (ds := [mealD bs ws st, badL pre first rest]) rfl rfl (looks_bad hp hf)))))))
theorem x_is_reason {d : D} : f_is_reason [mealD bs ws st, badL pre first rest, d] = .ex (NoDish first) := runB_ex (xRet (callLX (consX2 rfl (consX1 (callE (ds := [mealD bs ws st, badL pre first rest]) rfl rfl (looks_bad hp hf))))))
theorem x_enough : f_enough [mealD bs ws st, badL pre first rest] = .ex (NoDish first) := runB_ex (xRet (xBin (callE (ds := [mealD bs ws st, badL pre first rest]) rfl rfl (x_book_for hp hf))))
theorem x_in_place {d e : D} : f_in_place [mealD bs ws st, badL pre first rest, d, e] = .ex (NoDish first) := runB_ex (seqX (setX (callE (ds := [mealD bs ws st, badL pre first rest]) rfl rfl (looks_bad hp hf))))
theorem x_soonest1 {d : D} : f_soonest [mealD bs ws st, badL pre first rest, d] = .ex (NoDish first) := runB_ex (seqX (setX (callE (ds := [mealD bs ws st, badL pre first rest]) rfl rfl (names_bad hp hf))))
theorem x_closest1 {d : D} : f_closest [mealD bs ws st, badL pre first rest, d] = .ex (NoDish first) := runB_ex (seqX (setX (callE (ds := [mealD bs ws st, badL pre first rest]) rfl rfl (names_bad hp hf))))
theorem x_soonest2 {nm : List Str} (hn : ∀ x ∈ nm, x ∈ keys bs) : f_soonest [mealD bs ws st, txs nm, badL pre first rest] = .ex (NoDish first) :=
  runB_ex (seqN (setE (callE (ds := [mealD bs ws st, txs nm]) rfl rfl (names_ok2 hn))) (seqN (setFE (show 4 < 12 by decide) rfl) (seqX (xFor (xIter (callLX (consX2 rfl (consX1 (callE (ds := [mealD bs ws st, badL pre first rest]) rfl rfl (looks_bad hp hf)))))))))) 
theorem x_closest2 {nm : List Str} (hn : ∀ x ∈ nm, x ∈ keys bs) : f_closest [mealD bs ws st, txs nm, badL pre first rest] = .ex (NoDish first) :=
  runB_ex (seqN (setE (callE (ds := [mealD bs ws st, txs nm]) rfl rfl (names_ok2 hn))) (seqN (setFE (show 4 < 11 by decide) rfl) (seqX (xFor (xIter (callLX (consX2 rfl (consX1 (callE (ds := [mealD bs ws st, badL pre first rest]) rfl rfl (looks_bad hp hf))))))))))
abbrev dueD (d : D) : D := .tup [.str "dish", d]
theorem by_looks : f__law_by_looks [mealD bs ws st, badL pre first rest] = .ok (.lst (List.replicate 5 (dueD first))) := by
  refine runB_rt (seqN (setFE (show 2 < 3 by decide) (lstE (ds := [dueD first]) (consE (tried_dish (callE (ds := [mealD bs ws st, badL pre first rest]) rfl rfl (x_book_for hp hf))) rfl) (show 1 ≤ 1000 by decide))) ?_)
  refine seqN (appE (ds := [dueD first]) rfl (tried_dish (callE (ds := [mealD bs ws st, badL pre first rest]) rfl rfl (x_reason hp hf))) (show 1 < LIM by decide)) ?_
  refine seqN (appE (ds := [dueD first, dueD first]) rfl (tried_dish (callE (ds := [mealD bs ws st, badL pre first rest, .non]) rfl rfl (x_is_reason hp hf))) (show 2 < LIM by decide)) ?_
  refine seqN (appE (ds := [dueD first, dueD first, dueD first]) rfl (tried_dish (callE (ds := [mealD bs ws st, badL pre first rest]) rfl rfl (x_enough hp hf))) (show 3 < LIM by decide)) ?_
  exact retE (binE (x := .lst [dueD first, dueD first, dueD first, dueD first]) (y := .lst [dueD first]) rfl (lstE (ds := [dueD first]) (consE (tried_dish (callE (ds := [mealD bs ws st, badL pre first rest, .non, .non]) rfl rfl (x_in_place hp hf))) rfl) (show 1 ≤ 1000 by decide)) rfl)
theorem by_names {nm : List Str} (hn : ∀ x ∈ nm, x ∈ keys bs) : f__law_by_names [mealD bs ws st, txs nm, badL pre first rest] = .ok (.lst (List.replicate 4 (dueD first))) := by
  refine runB_rt (seqN (setFE (show 3 < 4 by decide) (lstE (ds := [dueD first]) (consE (tried_dish (callE (ds := [mealD bs ws st, badL pre first rest, .lst [.str "?"]]) rfl rfl (x_soonest1 hp hf))) rfl) (show 1 ≤ 1000 by decide))) ?_)
  refine seqN (appE (ds := [dueD first]) rfl (tried_dish (callE (ds := [mealD bs ws st, badL pre first rest, .lst [.str "?"]]) rfl rfl (x_closest1 hp hf))) (show 1 < LIM by decide)) ?_
  refine seqN (appE (ds := [dueD first, dueD first]) rfl (tried_dish (callE (ds := [mealD bs ws st, txs nm, badL pre first rest]) rfl rfl (x_soonest2 hp hf hn))) (show 2 < LIM by decide)) ?_
  exact retE (binE (x := .lst [dueD first, dueD first, dueD first]) (y := .lst [dueD first]) rfl (lstE (ds := [dueD first]) (consE (tried_dish (callE (ds := [mealD bs ws st, txs nm, badL pre first rest]) rfl rfl (x_closest2 hp hf hn))) rfl) (show 1 ≤ 1000 by decide)) rfl)
end
/-! in_place -/
theorem in_place1 {nm : List Str} {d e : D} (hn : ∀ x ∈ nm, x ∈ keys bs) (hd : f_is_among [d, txs nm] = .ok (.bl false)) : f_in_place [mealD bs ws st, txs nm, d, e] = .ex (NoDish d) :=
  runB_ex (seqN (setE (callE (ds := [mealD bs ws st, txs nm]) rfl rfl (looks_ok hn))) (seqX (ifsT (notTE (k := false) (valE (callE (ds := [d, txs nm]) rfl rfl hd))) (raiseE (ds := [d]) rfl rfl))))
theorem in_place2 {nm : List Str} {x : Str} {e : D} (hn : ∀ x ∈ nm, x ∈ keys bs) (hx : f_is_among [.str x, txs nm] = .ok (.bl true)) (he : NoD bs e) : f_in_place [mealD bs ws st, txs nm, .str x, e] = .ex (NoDish e) :=
  runB_ex (seqN (setE (callE (ds := [mealD bs ws st, txs nm]) rfl rfl (looks_ok hn))) (seqN (ifsF (notTE (k := true) (valE (callE (ds := [.str x, txs nm]) rfl rfl hx))) rfl) (seqX (ifsT (notTE (k := false) (valE (callE (ds := [e, .dic (mapD bD bs)]) (consE rfl (consE (fldE rfl rfl) rfl)) rfl he))) (raiseE (ds := [e]) rfl rfl)))))
/-! least_most -/
def BadIx (n : Nat) (d : D) : Prop := f_is_integer [d] = .ok (.bl false) ∨ ∃ i : Int, d = .int i ∧ (i < 0 ∨ (n : Int) ≤ i)
theorem ix_bad {d : D} (h : BadIx ws.length d) : f_Meal_check_index [mealD bs ws st, d] = .ex (NoWish d) := by
  rcases h with h | ⟨i, rfl, h⟩
  · exact runB_ex (ifsT (orTT (notTE (k := false) (valE (callE (ds := [d]) rfl rfl h)))) (raiseE (ds := [d]) rfl rfl))
  · refine runB_ex (ifsT (orTF rfl (notTE (k := false) ?_)) (raiseE (ds := [.int i]) rfl rfl))
    unfold fChainT
    show (if decide ((0 : Int) ≤ i) = true then ofB (some (D.bl (decide (i < ((ws.map Wi.d).length : Int))))) else .ok false) = _
    rw [List.length_map]
    by_cases z : (0 : Int) ≤ i
    · rw [decide_eq_true z, if_pos rfl, decide_eq_false (by omega)]
      rfl
    · rw [decide_eq_false z]
      rfl
theorem ix_ok (h : 0 < ws.length) : f_Meal_check_index [mealD bs ws st, .int 0] = .ok .non := by
  refine runB_nx (ifsF (orTF rfl (notTE (k := true) ?_)) rfl)
  unfold fChainT
  show ofB (some (D.bl (decide ((0 : Int) < ((ws.map Wi.d).length : Int))))) = _
  rw [List.length_map, decide_eq_true (by omega)]
  rfl
theorem least1 {d e : D} (h : BadIx ws.length d) : f_least_most [mealD bs ws st, d, e] = .ex (NoWish d) := runB_ex (seqX (xDrop (methE rfl rfl (ds := [d]) rfl rfl (ix_bad h))))
theorem least2 (h : 0 < ws.length) (hp : ∀ x ∈ pre, x ∈ keys bs) (hf : NoD bs first) : f_least_most [mealD bs ws st, .int 0, badL pre first rest] = .ex (NoDish first) :=
  runB_ex (seqN (dropE (methE rfl rfl (ds := [.int 0]) rfl rfl (ix_ok h))) (seqX (setX (callE (ds := [mealD bs ws st, badL pre first rest]) rfl rfl (looks_bad hp hf)))))
end
end DL.K34
namespace DL
open PySem PySem.Spec PyProof.Rows L2
variable [TabC]
theorem upsR {f : FS} {xq : XQ} {de : DE} {s : Ev} {n : Nat} {d : D} (h : f s = .rt d) (q : de.rt d n) : upS f xq de s n := by
  unfold upS
  rw [h]
  exact q
theorem dAdd_lst {xs ys : List D} (h : xs.length + ys.length ≤ LIM) : dAdd (.lst xs) (.lst ys) = some (.lst (xs ++ ys)) := if_pos h
theorem ifM {t : EM Bool} {a b : EM D} {xq : XQ} {s : Ev} {n : Nat} {Q : D → Nat → Prop} (h : t xq s n fun c n1 => (c = true → a xq s n1 Q) ∧ (c = false → b xq s n1 Q)) (mn : Mn t) : eIf t a b xq s n Q := by
  unfold eIf
  refine mn _ _ _ _ _ (fun c n1 q => ?_) h
  cases c
  · exact q.2 rfl
  · exact q.1 rfl
end DL
namespace DL.K34
open PySem PySem.Spec PyProof.Rows L2
variable [TabC]
theorem M__law_names : Meets 2 N__law_names sp__law_names B__law_names := by
  intro ds n Q xq hl h
  obtain ⟨k, rfl, h2, q⟩ := h
  unfold B__law_names
  refine seqU (s' := [some .st, some (.int k), some (txs (NAMES.take 8))]) rfl ⟨rfl, ?_⟩
  refine mix_strs (xs := NAMES) (by decide) (fun x hx => (names_good hx).ok) h2 fun ys p => ?_
  refine ⟨_, rfl, ?_⟩
  have e : cutL (ys.map D.str) none (some (k : Int)) = (ys.take k).map .str := by rw [cut_to, List.map_take]
  rw [e]
  exact q ys p
theorem M__law_some : Meets 2 N__law_some sp__law_some B__law_some := by
  intro ds n Q xq hl h
  obtain ⟨xs, rfl, h1, h2, q⟩ := h
  unfold B__law_some
  refine retM (lcU (ds := xs) rfl (by unfold LIM; omega) ?_)
  refine slc_some xs n q ?_ xs [] [] rfl (List.Sublist.refl _)
  intro d m Q' acc r hm hy hn
  refine ⟨_, rfl, ?_⟩
  refine callM rfl rfl (take_run (by decide) (by decide) (by omega) fun t t0 t1 => ⟨_, dEq_int, ?_⟩)
  by_cases z : t = 0
  · subst z
    exact hy
  · have : decide (t = 0) = false := decide_eq_false z
    rw [show ((t == 0) = false) from beq_eq_false_iff_ne.mpr z]
    exact hn
theorem M__law_spoilt : Meets 2 N__law_spoilt sp__law_spoilt B__law_spoilt := by
  intro ds n Q xq hl h
  obtain ⟨nm, rfl, h1, h2, h3, q⟩ := h
  unfold B__law_spoilt
  refine seqU (s' := [some .st, some (txs nm), some (.lst ODD), none, none, none, none]) rfl ?_
  refine seqM (setM (callMM (consU rfl (consM (callM rfl rfl ⟨nm.map .str, rfl, by rw [List.length_map]; omega, by omega, fun ys hs => nilU ⟨rfl, ?_⟩⟩)))))
  obtain ⟨zs, hz, rfl⟩ := List.sublist_map_iff.mp hs
  have zl := hz.length_le
  rw [List.length_map]
  refine mix_strs (xs := zs) (by omega) (fun x hx => h2 x (hz.subset hx)) (by omega) fun us hp => ?_
  have ul : us.length = zs.length := hp.length_eq
  try dsimp only
  try simp only [List.set_cons_zero, List.set_cons_succ]
  refine seqM (setM (callM rfl rfl (one_run (show 0 < 10 by decide) (show 10 ≤ 1000 by decide) (by omega) fun first hf => ?_)))
  try dsimp only
  try simp only [List.set_cons_zero, List.set_cons_succ]
  have el : fCons (fVar 0) (fCons (fBin dAdd (fBlt dLen (fCons (fVar 3) fNil)) (fC (.int 1))) fNil) [some .st, some (txs nm), some (.lst ODD), some (txs us), some first, none, none] = .ok [.st, .int ((us.length : Int) + 1)] := by
    show Res.ok [D.st, D.int (((us.map D.str).length : Int) + 1)] = _
    rw [List.length_map]
  refine seqM (setM (callM el rfl (take_run (by omega) (by omega) (by omega) fun a a0 a1 => ?_)))
  obtain ⟨j, rfl⟩ := nat_of a0
  try dsimp only
  try simp only [List.set_cons_zero, List.set_cons_succ]
  have fin : ∀ (more : List D) (n' : Nat), more.length ≤ 1 → n ≤ n' → n' ≤ n + 40 → upS (fRet (fTup (fCons (fBin dAdd (fBin dAdd (fBin dAdd (fSl (fVar 3) fNone (fSome (fVar 5))) (fLst (fCons (fVar 4) fNil))) (fSl (fVar 3) (fSome (fVar 5)) fNone)) (fVar 6)) (fCons (fVar 4) fNil)))) xq { nx := fun _ n => Q .non n, rt := Q } [some .st, some (txs nm), some (.lst ODD), some (txs us), some first, some (.int (j : Int)), some (.lst more)] n' := fun more n' hm g1 g2 => by
    have e1 : fSl (fVar 3) fNone (fSome (fVar 5)) [some .st, some (txs nm), some (.lst ODD), some (txs us), some first, some (.int (j : Int)), some (.lst more)] = .ok (.lst ((us.take j).map .str)) := by
      show Res.ok (D.lst (cutL (us.map D.str) none (some (j : Int)))) = _
      rw [cut_to, List.map_take]
    have e2 : fSl (fVar 3) (fSome (fVar 5)) fNone [some .st, some (txs nm), some (.lst ODD), some (txs us), some first, some (.int (j : Int)), some (.lst more)] = .ok (.lst ((us.drop j).map .str)) := by
      show Res.ok (D.lst (cutL (us.map D.str) (some (j : Int)) none)) = _
      rw [cut_from, List.map_drop]
    have lt : ((us.take j).map D.str).length ≤ 10 := by rw [List.length_map, List.length_take]; omega
    have ld : ((us.drop j).map D.str).length ≤ 10 := by rw [List.length_map, List.length_drop]; omega
    refine upsR (d := .tup [.lst ((us.take j).map .str ++ first :: ((us.drop j).map .str ++ more)), first]) ?_ (q _ _ _ _ (fun x hx => hz.subset (hp.subset (List.mem_of_mem_take hx))) (by rw [List.length_take]; omega) hf (by rw [List.length_append]; omega) g1 g2)
    have ea : (us.take j).map D.str ++ first :: ((us.drop j).map .str ++ more) = (((us.take j).map D.str ++ [first]) ++ (us.drop j).map .str) ++ more := by simp
    rw [ea]
    refine retE (tupE (consE (binE (binE (binE e1 (lstE (ds := [first]) rfl (show 1 ≤ 1000 by decide)) (dAdd_lst ?_)) e2 (dAdd_lst ?_)) rfl (dAdd_lst ?_)) (consE rfl rfl)) (show 2 ≤ 1000 by decide))
    · rw [List.length_singleton]; unfold LIM; omega
    · rw [List.length_append, List.length_singleton]; unfold LIM; omega
    · rw [List.length_append, List.length_append, List.length_singleton]; unfold LIM; omega
  refine seqM (setM ?_)
  show eCall _ _ _ _ _ _ _ _
  refine callM rfl rfl (take_run (by decide) (by decide) (by omega) fun t t0 t1 => ⟨_, dEq_int, ?_⟩)
  by_cases z : t = 0
  · subst z
    have hc : ∀ P R : Prop, P → (if ((0 : Int) == 0) = true then P else R) := fun _ _ h => by rw [if_pos (by decide : ((0 : Int) == 0) = true)]; exact h
    refine hc _ _ ?_
    refine lstM (consM (callM rfl rfl (one_run (show 0 < 10 by decide) (show 10 ≤ 1000 by decide) (by omega) fun e he => nilU ⟨show 1 ≤ 1000 by decide, ?_⟩)))
    exact fin [e] _ (Nat.le_refl _) (by omega) (by omega)
  · rw [show ((t == 0) = false) from beq_eq_false_iff_ne.mpr z]
    exact fin [] _ (by decide) (by omega) (by omega)
end DL.K34
namespace DL
open PySem PySem.Spec PyProof.Rows L2
variable [TabC]
theorem upsN {f : FS} {xq : XQ} {de : DE} {s s' : Ev} {n : Nat} (h : f s = .nx s') (q : de.nx s' n) : upS f xq de s n := by
  unfold upS
  rw [h]
  exact q
theorem Wi.okN {ks : List Str} (hk : ∀ x ∈ ks, Good x) {w : Wi} (h : w.ok ks) : OkN 2 w.d := OkN.tup fun d hd => by
  have : d = w.one.d ∨ d = w.other.d ∨ d = .int w.most := by simpa using hd
  rcases this with rfl | rfl | rfl
  · exact Mo.okD hk h.1
  · exact Mo.okD hk h.2
  · exact OkN.int
theorem pl_pair {w : Str} {d : D} (hw : sOk w) (h : Pl 4 d) : Pl 5 (.tup [.str w, d]) := ⟨show 2 ≤ 1000 by decide, fun x hx => by
  have : x = .str w ∨ x = d := by simpa using hx
  rcases this with rfl | rfl
  · exact hw
  · exact h⟩
end DL
namespace DL.K34
open PySem PySem.Spec PyProof.Rows L2
variable [TabC]
abbrev dueW (d : D) : D := .tup [.str "wish", d]
theorem nn {x : Str} (h : decide (x ∈ NAMES) = false) {bs : Dis} (hb : ∀ y ∈ keys bs, y ∈ NAMES) : x ∉ keys bs := fun z => of_decide_eq_false h (hb x z)
theorem odd_no {bs : Dis} (hb : ∀ y ∈ keys bs, y ∈ NAMES) {d : D} (h : d ∈ ODD) : NoD bs d ∧ Pl 4 d := by
  have : d = .non ∨ d = .int 5 ∨ d = .str "" ∨ d = .str "Rice" ∨ d = .str "zzzz" ∨ d = .str "clock" ∨ d = .tup [.str "a"] ∨ d = .bl true ∨ d = .lst [.str "b"] ∨ d = .dic [] := by simpa [ODD] using h
  rcases this with rfl | rfl | rfl | rfl | rfl | rfl | rfl | rfl | rfl | rfl
  · exact ⟨among_notStr ⟨_, rfl, by decide⟩, trivial⟩
  · exact ⟨among_notStr ⟨_, rfl, by decide⟩, trivial⟩
  · exact ⟨among_no (nn (by decide +kernel) hb), show sOk _ by decide +kernel⟩
  · exact ⟨among_no (nn (by decide +kernel) hb), show sOk _ by decide +kernel⟩
  · exact ⟨among_no (nn (by decide +kernel) hb), show sOk _ by decide +kernel⟩
  · exact ⟨among_no (nn (by decide +kernel) hb), show sOk _ by decide +kernel⟩
  · exact ⟨among_notStr ⟨_, rfl, by decide⟩, by decide, fun x hx => by rw [List.mem_singleton.mp hx]; exact (show sOk _ by decide +kernel)⟩
  · exact ⟨among_notStr ⟨_, rfl, by decide⟩, trivial⟩
  · exact ⟨among_notStr ⟨_, rfl, by decide⟩, by decide, fun x hx => by rw [List.mem_singleton.mp hx]; exact (show sOk _ by decide +kernel)⟩
  · exact ⟨among_notStr ⟨_, rfl, by decide⟩, rfl⟩
theorem dish_ok : sOk "dish" := by decide +kernel
theorem wish_ok : sOk "wish" := by decide +kernel
/-- a call that names a dish which is none -/
theorem same_dish {O : List Nat} {f : FM D} {s : Ev} {d : D} {e : FM D} (h : f (hideL s O) = .ex (NoDish d)) (he : e s = .ok (dueD d)) (hp : Pl 4 d) : fCall 2 f__law_same [] (fCons (fTried (.told "told") HSR O f) (fCons e fNil)) s = .ok (.bl true) :=
  callE (ds := [dueD d, dueD d]) (consE (tried_dish h) (consE he rfl)) rfl (v_same6 (pl_pair dish_ok hp))
theorem same_wish {O : List Nat} {f : FM D} {s : Ev} {d : D} {e : FM D} (h : f (hideL s O) = .ex (NoWish d)) (he : e s = .ok (dueW d)) (hp : Pl 4 d) : fCall 2 f__law_same [] (fCons (fTried (.told "told") HSR O f) (fCons e fNil)) s = .ok (.bl true) :=
  callE (ds := [dueW d, dueW d]) (consE (tried_wish h) (consE he rfl)) rfl (v_same6 (pl_pair wish_ok hp))
theorem step_ok {t : FM D} {f : FS} {s : Ev} (h : t s = .ok (.bl true)) : fIfS (fNotT (fVal t)) f fNilS s = .nx s := ifsF (notTE (k := true) (valE h)) rfl
theorem M_law : B_law (fun _ _ => False) { nx := fun _ _ => False, rt := fun d _ => d = .bl true } (none :: some .st :: List.replicate (N_law.length - 2) none) 0 := by
  unfold B_law
  refine seqM (forU (i := fRange1 (fC (.int 4))) (ds := (List.range 4).map fun i => .int (i : Nat)) rfl ?_)
  refine sfor_acc (fun i : Nat => .int (i : Nat)) (fun acc s n => n ≤ 300 * acc.length ∧ ∃ x2 x3 x4 x5 x6 x7 x8 x9 x10 x11 : Option D, s = [none, some .st, x2, x3, x4, x5, x6, x7, x8, x9, x10, x11]) (List.range 4) ⟨Nat.le_refl _, _, _, _, _, _, _, _, _, _, _, rfl⟩ (fun s' n' _ => rfl) ?_
  rintro acc turn post s n de' e ⟨hn, x2, x3, x4, x5, x6, x7, x8, x9, x10, x11, rfl⟩ hq
  have hlt := len_pre e
  rw [List.length_range] at hlt
  refine ⟨_, rfl, ?_⟩
  refine seqM (asgM (callMM (consU rfl (consM (binUM (d := .int 1) rfl (callM rfl rfl (take_run (by decide) (by decide) (by omega) fun r r0 r1 => ⟨.int (1 + r), rfl, rfl, ?_⟩)))))))
  obtain ⟨j, rfl⟩ := nat_of r0
  have ej : (1 + (j : Int)) = ((1 + j : Nat) : Int) := by omega
  rw [ej]
  refine ⟨1 + j, 3, 3, rfl, by decide, by decide, by decide, by omega, fun bs ws n1 bnd bng bl bbd wl hws a1 b1 => ⟨_, rfl, ?_⟩⟩
  have bgd : ∀ x ∈ keys bs, Good x := fun x hx => names_good (bng x hx)
  have bok : ∀ x ∈ keys bs, sOk x := fun x hx => (bgd x hx).ok
  have bl3 : bs.length ≤ 3 := by omega
  have bkl0 : (keys bs).length = bs.length := List.length_map ..
  have bl1 : 1 ≤ bs.length := by omega
  have DO : DishOk bs := ⟨bnd, bgd, fun p hp => ⟨(bbd p hp).1, (bbd p hp).2.2.1⟩, by omega⟩
  have snm : ∀ y ∈ keys (sortK bs), y ∈ NAMES := fun y hy => bng y (mem_keys.mp hy)
  have sin : ∀ y ∈ keys bs, y ∈ keys (sortK bs) := fun y hy => mem_keys.mpr hy
  obtain ⟨a, l, hk⟩ : ∃ a l, keys bs = a :: l := by
    cases h : keys bs with
    | nil => rw [h] at bkl0; simp at bkl0; omega
    | cons a l => exact ⟨a, l, rfl⟩
  have ak : a ∈ keys bs := by rw [hk]; exact List.mem_cons_self
  have e0 : dIdx (txs (keys bs)) (.int 0) = some (.str a) := by rw [hk]; exact dIdx_lst (xs := (a :: l).map D.str) (k := 0)
  try dsimp only
  try simp only [List.set_cons_zero, List.set_cons_succ]
  refine seqU (asgE (d := .tup [mealD (sortK bs) ws [], txs (keys bs)]) (tupE (consE (callE (ds := [.dic (mapD bD bs), .lst (ws.map Wi.d), .lst []]) rfl rfl (runB_rt (retE (makeE (ds := [.dic (mapD bD bs), .lst (ws.map Wi.d), .lst []]) rfl rfl (v_meal0L DO (tp := false) hws (by omega)) rfl)))) (consE (bltE rfl (dList_map _ _)) rfl)) (show 2 ≤ 1000 by decide)) rfl) ?_
  try dsimp only
  try simp only [List.set_cons_zero, List.set_cons_succ]
  refine seqM (asgM (callM rfl rfl ⟨keys bs, rfl, by omega, bok, by omega, fun pre first rest n2 hpre hpl hf hrl g1 g2 => ⟨_, rfl, ?_⟩⟩))
  have FN := odd_no snm hf
  have hpre2 : ∀ x ∈ pre, x ∈ keys (sortK bs) := fun x hx => sin x (hpre x hx)
  try dsimp only
  try simp only [List.set_cons_zero, List.set_cons_succ]
  have nPl : Pl 4 (txs (keys bs)) := ⟨by rw [List.length_map]; omega, fun x hx => by
    obtain ⟨y, hy, rfl⟩ := List.mem_map.mp hx
    exact bok y hy⟩
  have base : ∀ y4 : Option D, ∃ s', fFor (fIter (fLst (fCons (fC .non) (fCons (fC (.int 5)) (fCons (fC (.str "zzzz")) (fCons (fC (.bl true)) (fCons (fVar 8) (fCons (fC (.str "clock")) fNil)))))))) (fgNm 4) (b_law_1) [none, some .st, some (.int turn), some (dueD first), y4, some (.dic (mapD bD bs)), some (.lst (ws.map Wi.d)), some (mealD (sortK bs) ws []), some (txs (keys bs)), some (badL pre first rest), some first, x11] = .nx s' ∧ ∃ y4, s' = [none, some .st, some (.int turn), some (dueD first), y4, some (.dic (mapD bD bs)), some (.lst (ws.map Wi.d)), some (mealD (sortK bs) ws []), some (txs (keys bs)), some (badL pre first rest), some first, x11] := fun y4 => by
    obtain ⟨s', e, y5, rfl⟩ := for_inv (g := fgNm 4) (b := b_law_1) (fun s => ∃ y4, s = [none, some .st, some (.int turn), some (dueD first), y4, some (.dic (mapD bD bs)), some (.lst (ws.map Wi.d)), some (mealD (sortK bs) ws []), some (txs (keys bs)), some (badL pre first rest), some first, x11]) [.non, .int 5, .str "zzzz", .bl true, txs (keys bs), .str "clock"] [none, some .st, some (.int turn), some (dueD first), y4, some (.dic (mapD bD bs)), some (.lst (ws.map Wi.d)), some (mealD (sortK bs) ws []), some (txs (keys bs)), some (badL pre first rest), some first, x11] ⟨_, rfl⟩ (fun d hd s ⟨y4, hs⟩ => by
      subst hs
      have hd2 : NoD (sortK bs) d ∧ Pl 4 d ∧ f_is_among [d, txs (keys bs)] = .ok (.bl false) := by
        have : d = .non ∨ d = .int 5 ∨ d = .str "zzzz" ∨ d = .bl true ∨ d = txs (keys bs) ∨ d = .str "clock" := by simpa using hd
        rcases this with rfl | rfl | rfl | rfl | rfl | rfl
        · exact ⟨among_notStr ⟨_, rfl, by decide⟩, trivial, among_notStr ⟨_, rfl, by decide⟩⟩
        · exact ⟨among_notStr ⟨_, rfl, by decide⟩, trivial, among_notStr ⟨_, rfl, by decide⟩⟩
        · refine ⟨among_no (nn (by decide +kernel) snm), (show sOk _ by decide +kernel), ?_⟩
          rw [among_lst (by decide +kernel) bok, decide_eq_false (nn (by decide +kernel) bng)]
        · exact ⟨among_notStr ⟨_, rfl, by decide⟩, trivial, among_notStr ⟨_, rfl, by decide⟩⟩
        · exact ⟨among_notStr ⟨_, rfl, by decide⟩, nPl, among_notStr ⟨_, rfl, by decide⟩⟩
        · refine ⟨among_no (nn (by decide +kernel) snm), (show sOk _ by decide +kernel), ?_⟩
          rw [among_lst (by decide +kernel) bok, decide_eq_false (nn (by decide +kernel) bng)]
      obtain ⟨d1, d2, d3⟩ := hd2
      refine ⟨_, rfl, _, seqN (step_ok (same_dish (d := d) (callE (ds := [mealD (sortK bs) ws [], txs (keys bs), d, .non]) rfl rfl (in_place1 sin d3)) rfl d2)) (step_ok (same_dish (d := d) (callE (ds := [mealD (sortK bs) ws [], txs (keys bs), .str a, d]) (consE rfl (consE rfl (consE (binE rfl rfl e0) (consE rfl rfl)))) rfl (in_place2 sin (by rw [among_lst (bok a ak) bok, decide_eq_true ak]) d1)) rfl d2)), _, rfl⟩)
    exact ⟨_, forE (ds := [.non, .int 5, .str "zzzz", .bl true, txs (keys bs), .str "clock"]) rfl e, _, rfl⟩
  obtain ⟨s1, f1, y4, rfl⟩ := base x4
  have wishes : ∃ s', fFor (fIter (fLst (fCons (fNeg (fC (.int 1))) (fCons (fBlt dLen (fCons (fVar 6) fNil)) (fCons (fC .non) (fCons (fC (.str "0")) (fCons (fC (.bl true)) (fCons (fTup (fCons (fC (.int 0)) fNil)) (fCons (fBin dPow (fC (.int 10)) (fC (.int 30))) fNil))))))))) (fgNm 4) (b_law_2) [none, some .st, some (.int turn), some (dueD first), y4, some (.dic (mapD bD bs)), some (.lst (ws.map Wi.d)), some (mealD (sortK bs) ws []), some (txs (keys bs)), some (badL pre first rest), some first, x11] = .nx s' ∧ ∃ y4, s' = [none, some .st, some (.int turn), some (dueD first), y4, some (.dic (mapD bD bs)), some (.lst (ws.map Wi.d)), some (mealD (sortK bs) ws []), some (txs (keys bs)), some (badL pre first rest), some first, x11] := by
    obtain ⟨s', e, y5, rfl⟩ := for_inv (g := fgNm 4) (b := b_law_2) (fun s => ∃ y4, s = [none, some .st, some (.int turn), some (dueD first), y4, some (.dic (mapD bD bs)), some (.lst (ws.map Wi.d)), some (mealD (sortK bs) ws []), some (txs (keys bs)), some (badL pre first rest), some first, x11]) [.int (-1), .int (ws.length : Nat), .non, .str "0", .bl true, .tup [.int 0], .int (10 ^ 30)] [none, some .st, some (.int turn), some (dueD first), y4, some (.dic (mapD bD bs)), some (.lst (ws.map Wi.d)), some (mealD (sortK bs) ws []), some (txs (keys bs)), some (badL pre first rest), some first, x11] ⟨_, rfl⟩ (fun d hd s ⟨y4, hs⟩ => by
      subst hs
      have hd2 : BadIx ws.length d ∧ Pl 4 d := by
        have : d = .int (-1) ∨ d = .int (ws.length : Nat) ∨ d = .non ∨ d = .str "0" ∨ d = .bl true ∨ d = .tup [.int 0] ∨ d = .int (10 ^ 30) := by
          rcases List.mem_cons.mp hd with h | h
          · exact .inl h
          rcases List.mem_cons.mp h with h | h
          · exact .inr (.inl h)
          rcases List.mem_cons.mp h with h | h
          · exact .inr (.inr (.inl h))
          rcases List.mem_cons.mp h with h | h
          · exact .inr (.inr (.inr (.inl h)))
          rcases List.mem_cons.mp h with h | h
          · exact .inr (.inr (.inr (.inr (.inl h))))
          rcases List.mem_cons.mp h with h | h
          · exact .inr (.inr (.inr (.inr (.inr (.inl h)))))
          · exact .inr (.inr (.inr (.inr (.inr (.inr (List.mem_singleton.mp h))))))
        rcases this with rfl | rfl | rfl | rfl | rfl | rfl | rfl
        · exact ⟨.inr ⟨_, rfl, .inl (by decide)⟩, trivial⟩
        · exact ⟨.inr ⟨_, rfl, .inr (Int.le_refl _)⟩, trivial⟩
        · exact ⟨.inl rfl, trivial⟩
        · exact ⟨.inl rfl, show sOk _ by decide +kernel⟩
        · exact ⟨.inl rfl, trivial⟩
        · exact ⟨.inl rfl, by decide, fun x hx => by rw [List.mem_singleton.mp hx]; trivial⟩
        · exact ⟨.inr ⟨_, rfl, .inr (by omega)⟩, trivial⟩
      obtain ⟨d1, d2⟩ := hd2
      exact ⟨_, rfl, _, step_ok (same_wish (d := d) (callE (ds := [mealD (sortK bs) ws [], d, badL pre first rest]) rfl rfl (least1 d1)) rfl d2), _, rfl⟩)
    refine ⟨_, forE (ds := [.int (-1), .int (ws.length : Nat), .non, .str "0", .bl true, .tup [.int 0], .int (10 ^ 30)]) ?_ e, _, rfl⟩
    refine iterE (d := .lst [.int (-1), .int (ws.length : Nat), .non, .str "0", .bl true, .tup [.int 0], .int (10 ^ 30)]) (lstE (consE rfl (consE ?_ (consE rfl (consE rfl (consE rfl (consE rfl (consE (binE rfl rfl ?_) rfl))))))) (show 7 ≤ 1000 by decide)) rfl
    · show Res.ok (D.int (((ws.map Wi.d).length : Nat) : Int)) = _
      rw [List.length_map]
    · show (if decide ((0 : Int) ≤ 30 ∧ (30 : Int) ≤ 1000000 ∧ Int.natAbs 10 < 2 ^ 64) = true then some (D.int (10 ^ Int.toNat 30)) else none) = _
      rw [if_pos (by decide)]
      rfl
  obtain ⟨s2, f2, y5, rfl⟩ := wishes
  refine upsN (s' := [none, some .st, some (.int turn), some (dueD first), y5, some (.dic (mapD bD bs)), some (.lst (ws.map Wi.d)), some (mealD (sortK bs) ws []), some (txs (keys bs)), some (badL pre first rest), some first, x11]) (seqN rfl (seqN (ifsF (notTE (k := true) (valE (bltE (consE (lcE (ds := (List.replicate 9 ()).map fun _ => dueD first) (iterE (d := .lst (List.replicate 9 (dueD first))) (binE (callE (ds := [mealD (sortK bs) ws [], badL pre first rest]) rfl rfl (by_looks hpre2 FN.1)) (callE (ds := [mealD (sortK bs) ws [], txs (keys bs), badL pre first rest]) rfl rfl (by_names hpre2 FN.1 sin)) rfl) rfl) (show 9 ≤ LIM by decide) (lc_map (fun _ : Unit => dueD first) (fun _ => .bl true) (List.replicate 9 ()) fun _ _ => ⟨_, rfl, callE (ds := [dueD first, dueD first]) rfl rfl (v_same6 (pl_pair dish_ok FN.2))⟩)) rfl) (all_true (List.replicate 9 ()))))) rfl) (seqN f1 (seqN (step_ok (same_dish (d := .str a) (callE (ds := [mealD (sortK bs) ws [], txs ((keys bs).drop 1), .str a, .non]) (consE rfl (consE ?_ (consE (binE rfl rfl e0) rfl))) rfl (in_place1 (fun y hy => sin y (List.mem_of_mem_drop hy)) ?_)) (tupE (consE rfl (consE (binE rfl rfl e0) rfl)) (show 2 ≤ 1000 by decide)) (bok a ak))) (seqN f2 ?_))))) (hq _ _ ⟨?_, _, _, _, _, _, _, _, _, _, _, rfl⟩)
  · show Res.ok (D.lst (cutL ((keys bs).map D.str) (some ((1 : Nat) : Int)) none)) = _
    rw [cut_from, ← List.map_drop]
  · rw [among_lst (bok a ak) (fun x hx => bok x (List.mem_of_mem_drop hx)), decide_eq_false]
    rw [hk] at bnd ⊢
    exact (List.nodup_cons.mp bnd).1
  · cases ws with
    | nil => exact ifsF (andTF (binTE (x := .lst []) (y := .lst []) (k := false) rfl rfl (by rw [dNe_ok nil_ok nil_ok]; rfl))) rfl
    | cons w ws =>
      refine ifsF ?_ rfl
      have hne : dNe (.lst ((w :: ws).map Wi.d)) (.lst []) = some (.bl (!pyEq (.lst ((w :: ws).map Wi.d)) (.lst []))) := dNe_ok ((OkN.lst (k := 2) fun d hd => by
        obtain ⟨v, hv, rfl⟩ := List.mem_map.mp hd
        exact Wi.okN bgd (hws v hv)).ok (by decide)) nil_ok
      cases hb : (!pyEq (.lst ((w :: ws).map Wi.d)) (.lst [])) with
      | false => exact andTF (binTE rfl rfl (by rw [hne, hb]))
      | true => exact andTT (binTE rfl rfl (by rw [hne, hb])) (notTE (k := true) (valE (same_dish (d := first) (callE (ds := [mealD (sortK bs) (w :: ws) [], .int 0, badL pre first rest]) rfl rfl (least2 (by simp) hpre2 FN.1)) rfl FN.2)))
  · rw [List.length_append, List.length_singleton]
    omega
end DL.K34
namespace DL
open PySem PySem.Spec PyProof.Rows L2
theorem funD_fn {K : PySem.W.Frag} {x q : Str} {params : Arguments} {body : List Stmt} {scope : Scope} {dvs : List V} {kws : List (Str × V)} {f : Addr} {fd : FuncData} (F : FunD K x q params body scope dvs kws f fd) : PySem.W.fnIn K f = true := by
  obtain ⟨oc, od, dV, kV, doc, pm, an, cdv, ct, osl, e, lk, _⟩ := F.ex
  unfold PySem.W.fnIn
  rw [lk]
theorem only_tb [t : TabC] (ht : t.T = []) {H : Hp} (h : Only H) : TbA H := by
  refine ⟨fun p hp => ?_, fun b ps e => ?_⟩
  · rw [ht] at hp
    cases hp
  · rcases h b with z | ⟨o, xs, z⟩ <;> rw [z] at e <;> cases e
/-- what may leave, of any program and world -/
def CXU : CXT := fun outer H s E e s' => ∃ P w, CX P w outer H s E e s'
theorem cx_end (H : Hp) (s : Shared) (e : Value) (s' : Shared) (h : CXU [] H s (fun _ _ _ => False) e s') : False := by
  obtain ⟨_, _, _, _, _, _, _, _, _, _, _, _, _, _, z⟩ := h
  exact z
theorem FnOk.any {P : Program} {w : World} {K : PySem.W.Frag} {mg : Str → Option Value} {base : Heap} {k : Nat} {f : Addr} {fd : FuncData} {ps : List Str} {sp : Sp} (F : FnOk P w K mg base (CX P w) k f fd ps sp) : FnOk P w K mg base CXU k f fd ps sp :=
  ⟨F.len, fun A outer s H args us vs Q E hr e0 hb r h => codeAny_mono (F.run A outer s H args us vs Q E hr e0 hb r h) fun r s' q => by
    cases r with
    | ok fl => cases fl <;> exact q
    | error e => exact ⟨P, w, q⟩⟩
theorem map3 {α β γ δ : Type} {o : Option α} {f : α → β} {g : α → γ} {h : α → δ} {a : β} {b : γ} {c : δ} (h1 : o.map f = some a) (h2 : o.map g = some b) (h3 : o.map h = some c) : o.map (fun s => (f s, g s, h s)) = some (a, b, c) := by
  cases o with
  | none => cases h1
  | some s => rw [Option.map_some, Option.some.inj h1, Option.some.inj h2, Option.some.inj h3]
end DL
namespace DL.K34
open PySem PySem.Spec PyProof.Rows L2 HX
def dF (i : Nat) (x : Str) (dfl : List He.Dv) : He.DefD := ⟨(x, none), x, x, defArgs (top i), defBody (top i), defScope (top i), dfl, []⟩
def dM (i j : Nat) (c m q : Str) (dfl : List He.Dv) : He.DefD := ⟨(c, some m), m, q, defArgs (mth i j), defBody (mth i j), defScope (mth i j), dfl, []⟩
def eD (i j : Nat) (x q : Str) (fl : List Str) : ErrD := ⟨x, q, defArgs (mth i j), defBody (mth i j), defScope (mth i j), fl⟩
def fn : List He.DefD := [dF 90 "_law_fresh" [], dF 102 "_law_refused" [], dF 91 "_law_take" [], dF 93 "_law_mix" [], dF 96 "_law_names" [], dF 97 "_law_dishes" [], dF 92 "_law_one" [], dF 98 "_law_moment" [], dF 99 "_law_wishes" [], dF 100 "_law_meal" [], dF 20 "is_name" [], dF 18 "is_list" [], dF 19 "is_integer" [], dF 28 "are_bounds" [], dF 23 "rising" [], dF 21 "is_among" [], dF 24 "is_moment" [], dF 26 "is_wish" [], dF 22 "frozen" [], dF 30 "checked_wishes" [], dF 29 "is_station" [], dM 31 0 "Meal" "__init__" "Meal.__init__" [.adr (He.dflAt ("Meal", some "__init__") 0), .adr (He.dflAt ("Meal", some "__init__") 1)], dF 101 "_law_meal_of" [], dF 94 "_law_some" [], dF 103 "_law_spoilt" [], dF 64 "checked_looks" [], dF 69 "sought" [], dF 71 "book_for" [.non], dF 72 "reason" [.non], dF 74 "is_reason_under" [], dF 73 "is_reason" [], dF 78 "enough" [], dF 79 "in_place" [], dF 104 "_law_by_looks" [], dF 32 "check_dish" [], dF 86 "checked_names" [], dF 82 "ways" [], dF 87 "soonest" [.non], dF 88 "closest" [.non], dF 105 "_law_by_names" [], dF 95 "_law_same" [], dM 31 10 "Meal" "check_index" "Meal.check_index" [], dF 85 "least_most" [.non], dF 106 "law" []]
def fa : List He.Fa := [.glo "_law_fresh", .glo "_law_refused", .glo "_law_take", .glo "_law_mix", .glo "_law_names", .glo "_law_dishes", .glo "_law_one", .glo "_law_moment", .glo "_law_wishes", .glo "_law_meal", .glo "is_name", .glo "is_list", .glo "is_integer", .glo "are_bounds", .glo "rising", .glo "is_among", .glo "is_moment", .glo "is_wish", .glo "frozen", .glo "checked_wishes", .glo "is_station", .glo "_law_meal_of", .glo "_law_some", .glo "_law_spoilt", .glo "checked_looks", .glo "sought", .glo "book_for", .glo "reason", .glo "is_reason_under", .glo "is_reason", .glo "enough", .glo "in_place", .glo "_law_by_looks", .glo "check_dish", .glo "checked_names", .glo "ways", .glo "soonest", .glo "closest", .glo "_law_by_names", .glo "_law_same", .glo "least_most", .glo "law", .glo "NoDish", .glo "NoWish", .free "abs", .free "all", .free "bool", .free "enumerate", .free "int", .free "isinstance", .free "len", .free "list", .free "range", .free "str", .free "super", .free "tuple", .free "zip", .str "CLOCK" "clock", .str "LETTERS" "abcdefghijklmnopqrstuvwxyz", .int "MOST_LETTERS" 8, .glo "Meal", .cls "Meal", .mkr "Meal", .meth "Meal" "check_index", .noat "Meal" "bounds", .noat "Meal" "station_row", .noat "Meal" "wish_row"]
def er : List ErrD := [eD 3 0 "BadDish" "BadDish.__init__" ["name"], eD 5 0 "BadStation" "BadStation.__init__" ["index"], eD 4 0 "BadWish" "BadWish.__init__" ["index"], eD 7 0 "NoDish" "NoDish.__init__" ["name"], eD 6 0 "NoWish" "NoWish.__init__" ["index"]]
def tf : List He.Defn := [("_law_by_looks", none), ("_law_by_names", none), ("law", none)]
def ex (K : PySem.W.Frag) : Bool := tup0 K (He.dflAt ("Meal", some "__init__") 0 K) && tup0 K (He.dflAt ("Meal", some "__init__") 1 K) && xfB K (He.ga K "NoDish") && decide (PySem.W.findIn K (.ref (He.ga K "NoDish")) "name" = some none) && decide (PySem.W.exmOne K (.ref (He.ga K "NoDish")) (.ref (He.ga K "NoDish")) = some (decide (("NoDish" : Str) = "NoDish"))) && decide (PySem.W.exmOne K (.ref (He.ga K "NoDish")) (.ref (He.ga K "NoWish")) = some (decide (("NoWish" : Str) = "NoDish"))) && xfB K (He.ga K "NoWish") && decide (PySem.W.findIn K (.ref (He.ga K "NoWish")) "index" = some none) && decide (PySem.W.exmOne K (.ref (He.ga K "NoWish")) (.ref (He.ga K "NoDish")) = some (decide (("NoDish" : Str) = "NoWish"))) && decide (PySem.W.exmOne K (.ref (He.ga K "NoWish")) (.ref (He.ga K "NoWish")) = some (decide (("NoWish" : Str) = "NoWish"))) && !decide ((He.cT K ("_law_by_looks", none)).2 = (He.cT K ("_law_by_names", none)).2) && !decide ((He.cT K ("_law_by_looks", none)).2 = (He.cT K ("law", none)).2) && !decide ((He.cT K ("_law_by_names", none)).2 = (He.cT K ("law", none)).2)
def loose : List Str := [("_wall" : Str), ("KitchenError" : Str), ("BadDish" : Str), ("BadWish" : Str), ("BadStation" : Str), ("NoWish" : Str), ("NoDish" : Str), ("Clash" : Str), ("BadRow" : Str), ("Round" : Str), ("TooEarly" : Str), ("BadTimes" : Str)] ++ [("UnlikeHangings" : Str), ("LETTERS" : Str), ("MOST_LETTERS" : Str), ("CLOCK" : Str), ("is_list" : Str), ("is_integer" : Str), ("is_name" : Str), ("is_among" : Str), ("frozen" : Str), ("rising" : Str), ("is_moment" : Str), ("dish_of" : Str)] ++ [("is_wish" : Str), ("are_bounds" : Str), ("is_station" : Str), ("checked_wishes" : Str), ("Meal" : Str), ("check_dish" : Str), ("is_anchor" : Str), ("way_up" : Str), ("round_from" : Str), ("check_rounds" : Str), ("Hanging" : Str), ("hangings" : Str)] ++ [("is_book_row" : Str), ("waiting_book" : Str), ("Book" : Str), ("bounds_from" : Str), ("ring_in" : Str), ("LEAST" : Str), ("MOST" : Str), ("way_of" : Str), ("unshared" : Str), ("behind_by" : Str), ("anchors_of" : Str), ("pairs_at" : Str)] ++ [("comes_first" : Str), ("wish_row" : Str), ("order_row" : Str), ("all_rows" : Str), ("least_sums" : Str), ("row_told" : Str), ("is_round" : Str), ("checked_looks" : Str), ("is_settled" : Str), ("rows_told" : Str), ("choices" : Str), ("open_pair" : Str)] ++ [("sought" : Str), ("sought_by_hangs" : Str), ("book_for" : Str), ("reason" : Str), ("is_reason" : Str), ("is_reason_under" : Str), ("is_hang_reason" : Str), ("is_order_reason" : Str), ("enough" : Str), ("in_place" : Str), ("choices_of_orders" : Str), ("ways" : Str)] ++ [("least_number" : Str), ("least_of" : Str), ("least_most" : Str), ("checked_names" : Str), ("soonest" : Str), ("closest" : Str), ("_law_fresh" : Str), ("_law_take" : Str), ("_law_one" : Str), ("_law_mix" : Str), ("_law_some" : Str), ("_law_same" : Str)] ++ [("_law_names" : Str), ("_law_dishes" : Str), ("_law_moment" : Str), ("_law_wishes" : Str), ("_law_meal" : Str), ("_law_meal_of" : Str), ("_law_refused" : Str), ("_law_spoilt" : Str), ("_law_by_looks" : Str), ("_law_by_names" : Str)]
abbrev R : PySem.W.OpenRow := PySem.W.OpenLaw.row PySem.Challenge.rw_cookcalls_k34_looks_refused
abbrev hk : PySem.W.Hook := hookE R.prog 6 fa fn er tf ex
def ob (s : PySem.W.SharedT) : AlE := obsE R.prog 6 fa fn er tf ex (HandSHeadRun.getT s)
theorem ob_eq (s : PySem.W.SharedT) : ob s = hk.obs s.abs := obsE_eq (HandSHeadRun.getT_eq s)
abbrev vw : Program := PySem.W.view R.prog [106]
noncomputable abbrev endS (w : World) (os : OsState) : Option PySem.W.SharedT := HandSHeadRun.endF (HandSHeadRun.stepQ (HandSHeadRun.denQ HandSHeadRun.tabQ) R.prog w) 9000 R.prog w os
open HandSHeadRun PySem.W in
theorem run_a (w : World) (os : OsState) : (endS w os).map (fun s => looksF R.prog (boot_heap w.params) s.abs) = some true := by
  kernel_rfl
open HandSHeadRun PySem.W in
theorem run_b (w : World) (os : OsState) : (endS w os).map (fun s => seenQ vw loose (importedModules R.prog.main.body) (fun s => xlAt vw [] s && recOk R.toRowW.records s) s.abs) = some (openGood vw loose) := by
  kernel_rfl
theorem run_c (w : World) (os : OsState) : (endS w os).map ob = some (hk.val w) := by
  kernel_rfl
theorem run (w : World) : HandSHeadRun.RunEq R vw hk ob 9000 loose w := fun os => map3 (run_a w os) (run_b w os) (run_c w os)
def tabK (K : PySem.W.Frag) : TabC := ⟨[((He.cT K ("_law_by_looks", none)).2, (envOfC "_law_by_looks" (defScope (top 104)) 0 0 .none).qual ++ "<lambda>"), ((He.cT K ("_law_by_names", none)).2, (envOfC "_law_by_names" (defScope (top 105)) 0 0 .none).qual ++ "<lambda>"), ((He.cT K ("law", none)).2, (envOfC "law" (defScope (top 106)) 0 0 .none).qual ++ "<lambda>")]⟩
theorem tab_in {K : PySem.W.Frag} {p : Addr × Str} (hp : p ∈ (tabK K).T) : ∃ d ∈ tf, p.1 = (He.cT K d).2 := by
  unfold tabK at hp
  simp only [List.mem_cons, List.not_mem_nil, or_false] at hp
  rcases hp with hp | hp | hp
  · exact ⟨("_law_by_looks", none), by simp [tf], by rw [hp]⟩
  · exact ⟨("_law_by_names", none), by simp [tf], by rw [hp]⟩
  · exact ⟨("law", none), by simp [tf], by rw [hp]⟩
abbrev spL (K : PySem.W.Frag) : Sp := @spLaw (tabK K) K
theorem scTake : FnScope ["_law_state", "_law_many", "_law_cell", "_law_digit", "_law_mixed"] ["_law_state", "_law_many"] (defScope (top 91)) := ⟨rfl, rfl, rfl, by decide +kernel, rfl, by decide +kernel, by decide +kernel⟩
theorem scFresh : FnScope ["_law_script"] ["_law_script"] (defScope (top 90)) := ⟨rfl, rfl, rfl, by decide +kernel, rfl, by decide +kernel, by decide +kernel⟩
theorem ok_take [TabC] {P : Program} {w : World} {K : PySem.W.Frag} {mg : Str → Option Value} {base : Heap} {f : Addr} {fd : FuncData} (F : FunD K "_law_take" "_law_take" (defArgs (top 91)) (defBody (top 91)) (defScope (top 91)) [] [] f fd) (hg : mg "_law_take" = some (.ref f)) (f_len : mg "len" = none) (f_abs : mg "abs" = none) (f_int : mg "int" = none) :
    GFn P w K mg base "_law_take" 1 ["_law_state", "_law_many"] (lift K 2 sp__law_take) := by
  refine ⟨f, fd, hg, F.kp, F.bindsN (fun _ _ _ _ _ _ us hl => match us, hl with | [_, _], _ => rfl), FnOk.loud (F.ok scTake (fun vs H Q E h => ?_) (fun cdv A outer s H vs Q E hr h => ⟨t_take K, PSs.nox ?_, pure_take _ vs H Q E h⟩))⟩
  · obtain ⟨aS, A0, ds, n, xq, hl, r, _⟩ := h
    rw [r.length, hl]
    rfl
  · unfold t_take tPut tS
    exact pss_cons (ps_asg (pe_op op_add (pe_ix ix_list (pv 0) pe_int (fun _ _ => rfl)) pe_int) (pg_sub (pv 0) pe_int set_list)) (pss_cons (ps_while PassesOwn.never (PW.pt (pw_and (pt_cmpR op_eq (pe_ix ix_list (pv 0) pe_int (fun _ _ => rfl)) pe_int (nomark _)) (pw_and1 (pt_cmpR op_lt (pe_ix ix_list (pv 0) pe_int (fun _ _ => rfl)) (pe_callB call_len rfl f_len boot_len (pa_cons (pe_ix ix_list (pv 0) pe_int (fun _ _ => rfl)) pa_nil)) (nomark _))))) (pss_cons (ps_set (i := 2) scTake.nd rfl (.inl rfl) (pe_callB call_abs rfl f_abs boot_abs (pa_cons (pe_ix ix_list (pe_ix ix_list (pv 0) pe_int (fun _ _ => rfl)) (pe_ix ix_list (pv 0) pe_int (fun _ _ => rfl)) (fun _ _ => rfl)) pa_nil))) (pss_cons (ps_asg (pe_op op_add (pe_ix ix_list (pv 0) pe_int (fun _ _ => rfl)) pe_int) (pg_sub (pv 0) pe_int set_list)) (pss_one (ps_if (pt_cmpR op_ge (pv 2) (pe_op op_pow pe_int pe_int) (nomark _)) (pss_one (ps_asg (pv 2) (pg_sub (pv 0) pe_int set_list))) (pss_one (ps_asg (pe_op op_mod (pe_callTy call_int1 rfl f_int boot_int (pa_cons (pe_op op_add (pe_op op_add (pe_op op_mul (pe_ix ix_list (pv 0) pe_int (fun _ _ => rfl)) pe_int) (pv 2)) pe_int) pa_nil)) pe_int) (pg_sub (pv 0) pe_int set_list)))))))) (pss_cons (ps_if (pt_cmpR op_gt (pe_ix ix_list (pv 0) pe_int (fun _ _ => rfl)) pe_int (nomark _)) (pss_cons (ps_set (i := 3) scTake.nd rfl (.inl rfl) (pe_op op_mod (pe_callTy call_int1 rfl f_int boot_int (pa_cons ((pe_ix ix_list (pv 0) pe_int (fun _ _ => rfl))) pa_nil)) (pv 1))) (pss_cons (ps_asg (pe_op op_fdivW (pe_ix ix_list (pv 0) pe_int (fun _ _ => rfl)) (pv 1)) (pg_sub (pv 0) pe_int set_list)) (pss_one (ps_ret (pv 3))))) pss_nil) (pss_cons (ps_set (i := 4) scTake.nd rfl (.inl rfl) (pe_op op_mod (pe_callTy call_int1 rfl f_int boot_int (pa_cons (pe_op op_pow (pe_op op_add (pe_op op_add (pe_ix ix_list (pv 0) pe_int (fun _ _ => rfl)) (pe_op op_mul pe_int (pe_ix ix_list (pv 0) pe_int (fun _ _ => rfl)))) pe_int) pe_int) pa_nil)) pe_int)) (pss_cons (ps_set (i := 4) scTake.nd rfl (.inl rfl) (pe_op op_mod (pe_callTy call_int1 rfl f_int boot_int (pa_cons (pe_op op_pow (pe_op op_add (pv 4) (pe_op op_mul pe_int (pe_ix ix_list (pv 0) pe_int (fun _ _ => rfl)))) pe_int) pa_nil)) pe_int)) (pss_one (ps_ret (pe_op op_mod (pe_callTy call_int1 rfl f_int boot_int (pa_cons (pe_op op_fdivW (pv 4) pe_int) pa_nil)) (pv 1))))))))
theorem ok_fresh [TabC] {P : Program} {w : World} {K : PySem.W.Frag} {mg : Str → Option Value} {base : Heap} {f : Addr} {fd : FuncData} (F : FunD K "_law_fresh" "_law_fresh" (defArgs (top 90)) (defBody (top 90)) (defScope (top 90)) [] [] f fd) (hg : mg "_law_fresh" = some (.ref f)) (f_list : mg "list" = none) : ∃ f fd, mg "_law_fresh" = some (.ref f) ∧ PySem.W.keepIn K (.ref f) = true ∧ Binds K fd ["_law_script"] [] ∧ FnOk P w K mg base CX0 1 f fd ["_law_script"] (spFresh K) := by
  refine ⟨f, fd, hg, F.kp, F.bindsN (fun _ _ _ _ _ _ us hl => match us, hl with | [_], _ => rfl), F.ok scFresh (fun vs H Q E h => ?_) (fun cdv A outer s H vs Q E hr h => ⟨t_fresh K, PSs.nox ?_, pure_fresh vs H Q E h⟩)⟩
  · obtain ⟨a, ns, rfl, _⟩ := h
    rfl
  · unfold t_fresh
    exact pss_one (ps_ret (pe_lst (pa_cons (pe_callTy call_list_of rfl f_list boot_list (pa_cons (pe_slice sl_list (pv 0) po_none (po_some pe_int)) pa_nil)) (pa_cons pe_int (pa_cons pe_int (pa_cons pe_int (pa_cons pe_int pa_nil)))))))
theorem facts {P : Program} {w : World} {K : PySem.W.Frag} {h : Heap} {mg : Str → Option Value} {f : Addr} (X : K.In h) (G : h.Ns mainGlobals mg) (hfa : mg ("law" : Str) = some (.ref f)) (c : SaysE P fa fn er tf ex w h K) (ht : (P.main.scope.names.lookup ("super" : Str)).isSome = false) :
    ∃ fd : FuncData, (∀ (s : Shared) (v : Value), BindsTo s fd ⟨[v], []⟩ [("_law_script", v)]) ∧ ∀ base : Heap, K.In base → base.Ns mainGlobals mg → (∀ p ∈ tf, LamX.TabB base mg (He.cT K p).1 (He.cT K p).2) → FnOk P w K mg base (CX P w) k_law f fd ["_law_script"] (spL K) := by
  letI : TabC := tabK K
  have cd : He.SaysD fa fn K := c.d
  have fc := fun (i : Nat) {f : He.Fa} (e : fa[i]? = some f) => cd.fact i e
  have gl__law_fresh : mg "_law_fresh" = some (.ref (He.ga K "_law_fresh")) := He.glo_ok X G (fc 0 rfl)
  have gl__law_refused : mg "_law_refused" = some (.ref (He.ga K "_law_refused")) := He.glo_ok X G (fc 1 rfl)
  have gl__law_take : mg "_law_take" = some (.ref (He.ga K "_law_take")) := He.glo_ok X G (fc 2 rfl)
  have gl__law_mix : mg "_law_mix" = some (.ref (He.ga K "_law_mix")) := He.glo_ok X G (fc 3 rfl)
  have gl__law_names : mg "_law_names" = some (.ref (He.ga K "_law_names")) := He.glo_ok X G (fc 4 rfl)
  have gl__law_dishes : mg "_law_dishes" = some (.ref (He.ga K "_law_dishes")) := He.glo_ok X G (fc 5 rfl)
  have gl__law_one : mg "_law_one" = some (.ref (He.ga K "_law_one")) := He.glo_ok X G (fc 6 rfl)
  have gl__law_moment : mg "_law_moment" = some (.ref (He.ga K "_law_moment")) := He.glo_ok X G (fc 7 rfl)
  have gl__law_wishes : mg "_law_wishes" = some (.ref (He.ga K "_law_wishes")) := He.glo_ok X G (fc 8 rfl)
  have gl__law_meal : mg "_law_meal" = some (.ref (He.ga K "_law_meal")) := He.glo_ok X G (fc 9 rfl)
  have gl_is_name : mg "is_name" = some (.ref (He.ga K "is_name")) := He.glo_ok X G (fc 10 rfl)
  have gl_is_list : mg "is_list" = some (.ref (He.ga K "is_list")) := He.glo_ok X G (fc 11 rfl)
  have gl_is_integer : mg "is_integer" = some (.ref (He.ga K "is_integer")) := He.glo_ok X G (fc 12 rfl)
  have gl_are_bounds : mg "are_bounds" = some (.ref (He.ga K "are_bounds")) := He.glo_ok X G (fc 13 rfl)
  have gl_rising : mg "rising" = some (.ref (He.ga K "rising")) := He.glo_ok X G (fc 14 rfl)
  have gl_is_among : mg "is_among" = some (.ref (He.ga K "is_among")) := He.glo_ok X G (fc 15 rfl)
  have gl_is_moment : mg "is_moment" = some (.ref (He.ga K "is_moment")) := He.glo_ok X G (fc 16 rfl)
  have gl_is_wish : mg "is_wish" = some (.ref (He.ga K "is_wish")) := He.glo_ok X G (fc 17 rfl)
  have gl_frozen : mg "frozen" = some (.ref (He.ga K "frozen")) := He.glo_ok X G (fc 18 rfl)
  have gl_checked_wishes : mg "checked_wishes" = some (.ref (He.ga K "checked_wishes")) := He.glo_ok X G (fc 19 rfl)
  have gl_is_station : mg "is_station" = some (.ref (He.ga K "is_station")) := He.glo_ok X G (fc 20 rfl)
  have gl__law_meal_of : mg "_law_meal_of" = some (.ref (He.ga K "_law_meal_of")) := He.glo_ok X G (fc 21 rfl)
  have gl__law_some : mg "_law_some" = some (.ref (He.ga K "_law_some")) := He.glo_ok X G (fc 22 rfl)
  have gl__law_spoilt : mg "_law_spoilt" = some (.ref (He.ga K "_law_spoilt")) := He.glo_ok X G (fc 23 rfl)
  have gl_checked_looks : mg "checked_looks" = some (.ref (He.ga K "checked_looks")) := He.glo_ok X G (fc 24 rfl)
  have gl_sought : mg "sought" = some (.ref (He.ga K "sought")) := He.glo_ok X G (fc 25 rfl)
  have gl_book_for : mg "book_for" = some (.ref (He.ga K "book_for")) := He.glo_ok X G (fc 26 rfl)
  have gl_reason : mg "reason" = some (.ref (He.ga K "reason")) := He.glo_ok X G (fc 27 rfl)
  have gl_is_reason_under : mg "is_reason_under" = some (.ref (He.ga K "is_reason_under")) := He.glo_ok X G (fc 28 rfl)
  have gl_is_reason : mg "is_reason" = some (.ref (He.ga K "is_reason")) := He.glo_ok X G (fc 29 rfl)
  have gl_enough : mg "enough" = some (.ref (He.ga K "enough")) := He.glo_ok X G (fc 30 rfl)
  have gl_in_place : mg "in_place" = some (.ref (He.ga K "in_place")) := He.glo_ok X G (fc 31 rfl)
  have gl__law_by_looks : mg "_law_by_looks" = some (.ref (He.ga K "_law_by_looks")) := He.glo_ok X G (fc 32 rfl)
  have gl_check_dish : mg "check_dish" = some (.ref (He.ga K "check_dish")) := He.glo_ok X G (fc 33 rfl)
  have gl_checked_names : mg "checked_names" = some (.ref (He.ga K "checked_names")) := He.glo_ok X G (fc 34 rfl)
  have gl_ways : mg "ways" = some (.ref (He.ga K "ways")) := He.glo_ok X G (fc 35 rfl)
  have gl_soonest : mg "soonest" = some (.ref (He.ga K "soonest")) := He.glo_ok X G (fc 36 rfl)
  have gl_closest : mg "closest" = some (.ref (He.ga K "closest")) := He.glo_ok X G (fc 37 rfl)
  have gl__law_by_names : mg "_law_by_names" = some (.ref (He.ga K "_law_by_names")) := He.glo_ok X G (fc 38 rfl)
  have gl__law_same : mg "_law_same" = some (.ref (He.ga K "_law_same")) := He.glo_ok X G (fc 39 rfl)
  have gl_least_most : mg "least_most" = some (.ref (He.ga K "least_most")) := He.glo_ok X G (fc 40 rfl)
  have gl_law : mg "law" = some (.ref (He.ga K "law")) := He.glo_ok X G (fc 41 rfl)
  have gl_NoDish : mg "NoDish" = some (.ref (He.ga K "NoDish")) := He.glo_ok X G (fc 42 rfl)
  have gl_NoWish : mg "NoWish" = some (.ref (He.ga K "NoWish")) := He.glo_ok X G (fc 43 rfl)
  have f_abs : mg "abs" = none := He.free_ok X G (fc 44 rfl)
  have f_all : mg "all" = none := He.free_ok X G (fc 45 rfl)
  have f_bool : mg "bool" = none := He.free_ok X G (fc 46 rfl)
  have f_enumerate : mg "enumerate" = none := He.free_ok X G (fc 47 rfl)
  have f_int : mg "int" = none := He.free_ok X G (fc 48 rfl)
  have f_isinstance : mg "isinstance" = none := He.free_ok X G (fc 49 rfl)
  have f_len : mg "len" = none := He.free_ok X G (fc 50 rfl)
  have f_list : mg "list" = none := He.free_ok X G (fc 51 rfl)
  have f_range : mg "range" = none := He.free_ok X G (fc 52 rfl)
  have f_str : mg "str" = none := He.free_ok X G (fc 53 rfl)
  have f_super : mg "super" = none := He.free_ok X G (fc 54 rfl)
  have f_tuple : mg "tuple" = none := He.free_ok X G (fc 55 rfl)
  have f_zip : mg "zip" = none := He.free_ok X G (fc 56 rfl)
  have c_CLOCK : ∃ t, mg "CLOCK" = some (.str "clock" t) := He.str_ok X G (fc 57 rfl)
  have c_LETTERS : ∃ t, mg "LETTERS" = some (.str "abcdefghijklmnopqrstuvwxyz" t) := He.str_ok X G (fc 58 rfl)
  have c_MOST_LETTERS : ∃ t, mg "MOST_LETTERS" = some (.int 8 t) := He.int_ok X G (fc 59 rfl)
  have gl_Meal : mg "Meal" = some (.ref (He.ga K "Meal")) := He.glo_ok X G (fc 60 rfl)
  have cl_Meal : Cls K (He.ga K "Meal") := He.cls_ok (fc 61 rfl)
  have mk_Meal : Mk K (He.ga K "Meal") (He.ma K (He.ga K "Meal") "__init__") := He.mkr_ok (fc 62 rfl)
  have me_Meal_check_index : Meth K (He.ga K "Meal") "check_index" (He.ma K (He.ga K "Meal") "check_index") := He.meth_ok (fc 63 rfl)
  have na_Meal_bounds : NoAttr K (He.ga K "Meal") "bounds" := He.noat_ok (fc 64 rfl)
  have na_Meal_station_row : NoAttr K (He.ga K "Meal") "station_row" := He.noat_ok (fc 65 rfl)
  have na_Meal_wish_row : NoAttr K (He.ga K "Meal") "wish_row" := He.noat_ok (fc 66 rfl)
  obtain ⟨fd__law_fresh, F__law_fresh⟩ := cd.def_ 0 rfl
  obtain ⟨fd__law_refused, F__law_refused⟩ := cd.def_ 1 rfl
  obtain ⟨fd__law_take, F__law_take⟩ := cd.def_ 2 rfl
  obtain ⟨fd__law_mix, F__law_mix⟩ := cd.def_ 3 rfl
  obtain ⟨fd__law_names, F__law_names⟩ := cd.def_ 4 rfl
  obtain ⟨fd__law_dishes, F__law_dishes⟩ := cd.def_ 5 rfl
  obtain ⟨fd__law_one, F__law_one⟩ := cd.def_ 6 rfl
  obtain ⟨fd__law_moment, F__law_moment⟩ := cd.def_ 7 rfl
  obtain ⟨fd__law_wishes, F__law_wishes⟩ := cd.def_ 8 rfl
  obtain ⟨fd__law_meal, F__law_meal⟩ := cd.def_ 9 rfl
  obtain ⟨fd_is_name, F_is_name⟩ := cd.def_ 10 rfl
  obtain ⟨fd_is_list, F_is_list⟩ := cd.def_ 11 rfl
  obtain ⟨fd_is_integer, F_is_integer⟩ := cd.def_ 12 rfl
  obtain ⟨fd_are_bounds, F_are_bounds⟩ := cd.def_ 13 rfl
  obtain ⟨fd_rising, F_rising⟩ := cd.def_ 14 rfl
  obtain ⟨fd_is_among, F_is_among⟩ := cd.def_ 15 rfl
  obtain ⟨fd_is_moment, F_is_moment⟩ := cd.def_ 16 rfl
  obtain ⟨fd_is_wish, F_is_wish⟩ := cd.def_ 17 rfl
  obtain ⟨fd_frozen, F_frozen⟩ := cd.def_ 18 rfl
  obtain ⟨fd_checked_wishes, F_checked_wishes⟩ := cd.def_ 19 rfl
  obtain ⟨fd_is_station, F_is_station⟩ := cd.def_ 20 rfl
  obtain ⟨fd_Meal___init__, F_Meal___init__⟩ := cd.def_ 21 rfl
  obtain ⟨fd__law_meal_of, F__law_meal_of⟩ := cd.def_ 22 rfl
  obtain ⟨fd__law_some, F__law_some⟩ := cd.def_ 23 rfl
  obtain ⟨fd__law_spoilt, F__law_spoilt⟩ := cd.def_ 24 rfl
  obtain ⟨fd_checked_looks, F_checked_looks⟩ := cd.def_ 25 rfl
  obtain ⟨fd_sought, F_sought⟩ := cd.def_ 26 rfl
  obtain ⟨fd_book_for, F_book_for⟩ := cd.def_ 27 rfl
  obtain ⟨fd_reason, F_reason⟩ := cd.def_ 28 rfl
  obtain ⟨fd_is_reason_under, F_is_reason_under⟩ := cd.def_ 29 rfl
  obtain ⟨fd_is_reason, F_is_reason⟩ := cd.def_ 30 rfl
  obtain ⟨fd_enough, F_enough⟩ := cd.def_ 31 rfl
  obtain ⟨fd_in_place, F_in_place⟩ := cd.def_ 32 rfl
  obtain ⟨fd__law_by_looks, F__law_by_looks⟩ := cd.def_ 33 rfl
  obtain ⟨fd_check_dish, F_check_dish⟩ := cd.def_ 34 rfl
  obtain ⟨fd_checked_names, F_checked_names⟩ := cd.def_ 35 rfl
  obtain ⟨fd_ways, F_ways⟩ := cd.def_ 36 rfl
  obtain ⟨fd_soonest, F_soonest⟩ := cd.def_ 37 rfl
  obtain ⟨fd_closest, F_closest⟩ := cd.def_ 38 rfl
  obtain ⟨fd__law_by_names, F__law_by_names⟩ := cd.def_ 39 rfl
  obtain ⟨fd__law_same, F__law_same⟩ := cd.def_ 40 rfl
  obtain ⟨fd_Meal_check_index, F_Meal_check_index⟩ := cd.def_ 41 rfl
  obtain ⟨fd_least_most, F_least_most⟩ := cd.def_ 42 rfl
  obtain ⟨fd_law, F_law⟩ := cd.def_ 43 rfl
  have el : f = He.ga K "law" := by have e := hfa.symm.trans gl_law; cases e; rfl
  subst el
  have bl := FunD.bindsA (ps := ["_law_script"]) F_law fun _ _ _ _ _ _ us hl => match us, hl with | [_], _ => rfl
  refine ⟨fd_law, fun s v => bl s [v] rfl, fun base _ _ hTB => ?_⟩
  have X_BadDish : GEx P w K mg base "BadDish" 1 ["name"] := gex1 (d := eD 3 0 "BadDish" "BadDish.__init__" ["name"]) (slf0 := "self") (y := "name") X G (c.err 0 rfl) ht f_super rfl rfl rfl rfl (by decide +kernel) rfl rfl rfl ⟨_, rfl, rfl⟩ (by decide) (by decide) (by decide) (by decide) (fun _ _ _ _ _ _ _ => rfl)
    (fun F f L h1 h2 => by obtain ⟨n, q, ps, b, sc, cl, c⟩ := F; cases h1; cases h2; exact ⟨_, rfl⟩) (fun F f L h1 => by obtain ⟨n, q, ps, b, sc, cl, c⟩ := F; cases h1; rfl) (fun F f L h1 => by obtain ⟨n, q, ps, b, sc, cl, c⟩ := F; cases h1; rfl)
  have X_BadStation : GEx P w K mg base "BadStation" 1 ["index"] := gex1 (d := eD 5 0 "BadStation" "BadStation.__init__" ["index"]) (slf0 := "self") (y := "index") X G (c.err 1 rfl) ht f_super rfl rfl rfl rfl (by decide +kernel) rfl rfl rfl ⟨_, rfl, rfl⟩ (by decide) (by decide) (by decide) (by decide) (fun _ _ _ _ _ _ _ => rfl)
    (fun F f L h1 h2 => by obtain ⟨n, q, ps, b, sc, cl, c⟩ := F; cases h1; cases h2; exact ⟨_, rfl⟩) (fun F f L h1 => by obtain ⟨n, q, ps, b, sc, cl, c⟩ := F; cases h1; rfl) (fun F f L h1 => by obtain ⟨n, q, ps, b, sc, cl, c⟩ := F; cases h1; rfl)
  have X_BadWish : GEx P w K mg base "BadWish" 1 ["index"] := gex1 (d := eD 4 0 "BadWish" "BadWish.__init__" ["index"]) (slf0 := "self") (y := "index") X G (c.err 2 rfl) ht f_super rfl rfl rfl rfl (by decide +kernel) rfl rfl rfl ⟨_, rfl, rfl⟩ (by decide) (by decide) (by decide) (by decide) (fun _ _ _ _ _ _ _ => rfl)
    (fun F f L h1 h2 => by obtain ⟨n, q, ps, b, sc, cl, c⟩ := F; cases h1; cases h2; exact ⟨_, rfl⟩) (fun F f L h1 => by obtain ⟨n, q, ps, b, sc, cl, c⟩ := F; cases h1; rfl) (fun F f L h1 => by obtain ⟨n, q, ps, b, sc, cl, c⟩ := F; cases h1; rfl)
  have X_NoDish : GEx P w K mg base "NoDish" 1 ["name"] := gex1 (d := eD 7 0 "NoDish" "NoDish.__init__" ["name"]) (slf0 := "self") (y := "name") X G (c.err 3 rfl) ht f_super rfl rfl rfl rfl (by decide +kernel) rfl rfl rfl ⟨_, rfl, rfl⟩ (by decide) (by decide) (by decide) (by decide) (fun _ _ _ _ _ _ _ => rfl)
    (fun F f L h1 h2 => by obtain ⟨n, q, ps, b, sc, cl, c⟩ := F; cases h1; cases h2; exact ⟨_, rfl⟩) (fun F f L h1 => by obtain ⟨n, q, ps, b, sc, cl, c⟩ := F; cases h1; rfl) (fun F f L h1 => by obtain ⟨n, q, ps, b, sc, cl, c⟩ := F; cases h1; rfl)
  have X_NoWish : GEx P w K mg base "NoWish" 1 ["index"] := gex1 (d := eD 6 0 "NoWish" "NoWish.__init__" ["index"]) (slf0 := "self") (y := "index") X G (c.err 4 rfl) ht f_super rfl rfl rfl rfl (by decide +kernel) rfl rfl rfl ⟨_, rfl, rfl⟩ (by decide) (by decide) (by decide) (by decide) (fun _ _ _ _ _ _ _ => rfl)
    (fun F f L h1 h2 => by obtain ⟨n, q, ps, b, sc, cl, c⟩ := F; cases h1; cases h2; exact ⟨_, rfl⟩) (fun F f L h1 => by obtain ⟨n, q, ps, b, sc, cl, c⟩ := F; cases h1; rfl) (fun F f L h1 => by obtain ⟨n, q, ps, b, sc, cl, c⟩ := F; cases h1; rfl)
  have hmore := c.more
  unfold ex at hmore
  obtain ⟨hmore, ht_12⟩ := He.ba hmore
  obtain ⟨hmore, ht_11⟩ := He.ba hmore
  obtain ⟨hmore, ht_10⟩ := He.ba hmore
  obtain ⟨hmore, ht_9⟩ := He.ba hmore
  obtain ⟨hmore, ht_8⟩ := He.ba hmore
  obtain ⟨hmore, ht_7⟩ := He.ba hmore
  obtain ⟨hmore, ht_6⟩ := He.ba hmore
  obtain ⟨hmore, ht_5⟩ := He.ba hmore
  obtain ⟨hmore, ht_4⟩ := He.ba hmore
  obtain ⟨hmore, ht_3⟩ := He.ba hmore
  obtain ⟨hmore, ht_2⟩ := He.ba hmore
  obtain ⟨hmore, ht_1⟩ := He.ba hmore
  have ht_0 := hmore
  have TB__law_by_looks := hTB ("_law_by_looks", none) (by simp [tf])
  have hT__law_by_looks : ((He.cT K ("_law_by_looks", none)).2, ((envOfC "_law_by_looks" (defScope (top 104)) 0 0 .none).qual ++ "<lambda>")) ∈ TabC.T := by show _ ∈ [((He.cT K ("_law_by_looks", none)).2, ((envOfC "_law_by_looks" (defScope (top 104)) 0 0 .none).qual ++ "<lambda>")), ((He.cT K ("_law_by_names", none)).2, ((envOfC "_law_by_names" (defScope (top 105)) 0 0 .none).qual ++ "<lambda>")), ((He.cT K ("law", none)).2, ((envOfC "law" (defScope (top 106)) 0 0 .none).qual ++ "<lambda>"))]; simp
  have hU__law_by_looks : ∀ p ∈ TabC.T, p.1 = (He.cT K ("_law_by_looks", none)).2 → p.2 = ((envOfC "_law_by_looks" (defScope (top 104)) 0 0 .none).qual ++ "<lambda>") := by
    intro p hp e
    have hp : p ∈ [((He.cT K ("_law_by_looks", none)).2, ((envOfC "_law_by_looks" (defScope (top 104)) 0 0 .none).qual ++ "<lambda>")), ((He.cT K ("_law_by_names", none)).2, ((envOfC "_law_by_names" (defScope (top 105)) 0 0 .none).qual ++ "<lambda>")), ((He.cT K ("law", none)).2, ((envOfC "law" (defScope (top 106)) 0 0 .none).qual ++ "<lambda>"))] := hp
    simp only [List.mem_cons, List.not_mem_nil, or_false] at hp
    rcases hp with hp | hp | hp
    · rw [hp]
    · rw [hp] at e; exact absurd e.symm (of_decide_eq_false (by simpa using ht_10))
    · rw [hp] at e; exact absurd e.symm (of_decide_eq_false (by simpa using ht_11))
  have TB__law_by_names := hTB ("_law_by_names", none) (by simp [tf])
  have hT__law_by_names : ((He.cT K ("_law_by_names", none)).2, ((envOfC "_law_by_names" (defScope (top 105)) 0 0 .none).qual ++ "<lambda>")) ∈ TabC.T := by show _ ∈ [((He.cT K ("_law_by_looks", none)).2, ((envOfC "_law_by_looks" (defScope (top 104)) 0 0 .none).qual ++ "<lambda>")), ((He.cT K ("_law_by_names", none)).2, ((envOfC "_law_by_names" (defScope (top 105)) 0 0 .none).qual ++ "<lambda>")), ((He.cT K ("law", none)).2, ((envOfC "law" (defScope (top 106)) 0 0 .none).qual ++ "<lambda>"))]; simp
  have hU__law_by_names : ∀ p ∈ TabC.T, p.1 = (He.cT K ("_law_by_names", none)).2 → p.2 = ((envOfC "_law_by_names" (defScope (top 105)) 0 0 .none).qual ++ "<lambda>") := by
    intro p hp e
    have hp : p ∈ [((He.cT K ("_law_by_looks", none)).2, ((envOfC "_law_by_looks" (defScope (top 104)) 0 0 .none).qual ++ "<lambda>")), ((He.cT K ("_law_by_names", none)).2, ((envOfC "_law_by_names" (defScope (top 105)) 0 0 .none).qual ++ "<lambda>")), ((He.cT K ("law", none)).2, ((envOfC "law" (defScope (top 106)) 0 0 .none).qual ++ "<lambda>"))] := hp
    simp only [List.mem_cons, List.not_mem_nil, or_false] at hp
    rcases hp with hp | hp | hp
    · rw [hp] at e; exact absurd e (of_decide_eq_false (by simpa using ht_10))
    · rw [hp]
    · rw [hp] at e; exact absurd e.symm (of_decide_eq_false (by simpa using ht_12))
  have TB_law := hTB ("law", none) (by simp [tf])
  have hT_law : ((He.cT K ("law", none)).2, ((envOfC "law" (defScope (top 106)) 0 0 .none).qual ++ "<lambda>")) ∈ TabC.T := by show _ ∈ [((He.cT K ("_law_by_looks", none)).2, ((envOfC "_law_by_looks" (defScope (top 104)) 0 0 .none).qual ++ "<lambda>")), ((He.cT K ("_law_by_names", none)).2, ((envOfC "_law_by_names" (defScope (top 105)) 0 0 .none).qual ++ "<lambda>")), ((He.cT K ("law", none)).2, ((envOfC "law" (defScope (top 106)) 0 0 .none).qual ++ "<lambda>"))]; simp
  have hU_law : ∀ p ∈ TabC.T, p.1 = (He.cT K ("law", none)).2 → p.2 = ((envOfC "law" (defScope (top 106)) 0 0 .none).qual ++ "<lambda>") := by
    intro p hp e
    have hp : p ∈ [((He.cT K ("_law_by_looks", none)).2, ((envOfC "_law_by_looks" (defScope (top 104)) 0 0 .none).qual ++ "<lambda>")), ((He.cT K ("_law_by_names", none)).2, ((envOfC "_law_by_names" (defScope (top 105)) 0 0 .none).qual ++ "<lambda>")), ((He.cT K ("law", none)).2, ((envOfC "law" (defScope (top 106)) 0 0 .none).qual ++ "<lambda>"))] := hp
    simp only [List.mem_cons, List.not_mem_nil, or_false] at hp
    rcases hp with hp | hp | hp
    · rw [hp] at e; exact absurd e (of_decide_eq_false (by simpa using ht_11))
    · rw [hp] at e; exact absurd e (of_decide_eq_false (by simpa using ht_12))
    · rw [hp]
  have scu__law_refused : FnScope ["_law_ask", "_law_found", "e"] ["_law_ask"] (defScope (top 102)) := ⟨rfl, rfl, rfl, by decide +kernel, rfl, by decide +kernel, by decide +kernel⟩
  have U__law_refused : GTr P w K mg base "_law_refused" (.told "told") [("NoDish", some 2, .fld "dish" "name"), ("NoWish", some 2, .fld "wish" "index")] := gtr_of F__law_refused gl__law_refused scu__law_refused (fun _ _ _ _ _ _ us hl => match us, hl with | [_], _ => rfl) rfl (by decide) (by first | exact .inl rfl | exact .inr (.inl rfl) | exact .inr (.inr rfl)) (fun e he e2 he2 => by
      simp only [List.mem_cons, List.not_mem_nil, or_false] at he he2
      rcases he with he | he <;> rcases he2 with he2 | he2 <;> subst he <;> subst he2 <;> first | exact of_decide_eq_true ht_4 | exact of_decide_eq_true ht_5 | exact of_decide_eq_true ht_8 | exact of_decide_eq_true ht_9) (fun cdv Y e1 e2 e3 e4 e5 q => TR.tried_gives2K e3 scu__law_refused.nd rfl rfl (by decide) (by intro e he; simp only [hsA, List.map_cons, List.map_nil, List.mem_cons, List.not_mem_nil, or_false] at he; rcases he with he | he <;> subst he <;> first | trivial | exact ⟨by decide, by decide⟩) (fun s H => .cons ⟨rfl, rfl, .inl (by show Y.mg _ = _; rw [e4]; exact gl_NoDish)⟩ ⟨rfl, rfl⟩ (fun a oe cls d pn hz hf => TR.clause_fld (X := TR.ZX Y ["_law_ask", "_law_found", "e"] "_law_refused" (defScope (top 102)) (He.ga K "_law_refused") cdv s H) (i := 2) (j := 1) scu__law_refused.nd rfl rfl rfl rfl (by show XfC Y.K _; rw [e3]; exact xfB_ok ht_2) (by show PySem.W.findIn Y.K _ _ = _; rw [e3]; exact of_decide_eq_true ht_3) hz hf) (.cons ⟨rfl, rfl, .inl (by show Y.mg _ = _; rw [e4]; exact gl_NoWish)⟩ ⟨rfl, rfl⟩ (fun a oe cls d pn hz hf => TR.clause_fld (X := TR.ZX Y ["_law_ask", "_law_found", "e"] "_law_refused" (defScope (top 102)) (He.ga K "_law_refused") cdv s H) (i := 2) (j := 1) scu__law_refused.nd rfl rfl rfl rfl (by show XfC Y.K _; rw [e3]; exact xfB_ok ht_6) (by show PySem.W.findIn Y.K _ _ = _; rw [e3]; exact of_decide_eq_true ht_7) hz hf) (.nil))))
  have G__law_take : GFn P w K mg base "_law_take" k__law_take ["_law_state", "_law_many"] (lift K 2 sp__law_take) := ok_take F__law_take gl__law_take f_len f_abs f_int
  have G__law_mix : GFn P w K mg base "_law_mix" k__law_mix ["_law_state", "_law_things"] (lift K 2 sp__law_mix) := gfn F__law_mix gl__law_mix sc__law_mix (fun _ _ _ _ _ _ us hl => match us, hl with | [_, _], _ => rfl) (d__law_mix (P := P) (w := w) (K := K) (mg := mg) (base := base) (G__law_take := G__law_take) (f_len := f_len) (f_list := f_list)) M__law_mix
  have G__law_names : GFn P w K mg base "_law_names" k__law_names ["_law_state", "_law_many"] (lift K 2 sp__law_names) := gfn F__law_names gl__law_names sc__law_names (fun _ _ _ _ _ _ us hl => match us, hl with | [_, _], _ => rfl) (d__law_names (P := P) (w := w) (K := K) (mg := mg) (base := base) (G__law_mix := G__law_mix)) M__law_names
  have G__law_dishes : GFn P w K mg base "_law_dishes" k__law_dishes ["_law_state", "_law_names_here", "_law_wide"] (lift K 3 sp__law_dishes) := gfn F__law_dishes gl__law_dishes sc__law_dishes (fun _ _ _ _ _ _ us hl => match us, hl with | [_, _, _], _ => rfl) (d__law_dishes (P := P) (w := w) (K := K) (mg := mg) (base := base) (G__law_mix := G__law_mix) (G__law_take := G__law_take)) M__law_dishes
  have G__law_one : GFn P w K mg base "_law_one" k__law_one ["_law_state", "_law_things"] (lift K 2 sp__law_one) := gfn F__law_one gl__law_one sc__law_one (fun _ _ _ _ _ _ us hl => match us, hl with | [_, _], _ => rfl) (d__law_one (P := P) (w := w) (K := K) (mg := mg) (base := base) (G__law_take := G__law_take) (f_len := f_len)) M__law_one
  have G__law_moment : GFn P w K mg base "_law_moment" k__law_moment ["_law_state", "_law_names_here"] (lift K 2 sp__law_moment) := gfn F__law_moment gl__law_moment sc__law_moment (fun _ _ _ _ _ _ us hl => match us, hl with | [_, _], _ => rfl) (d__law_moment (P := P) (w := w) (K := K) (mg := mg) (base := base) (G__law_one := G__law_one) (G__law_take := G__law_take)) M__law_moment
  have G__law_wishes : GFn P w K mg base "_law_wishes" k__law_wishes ["_law_state", "_law_names_here", "_law_many"] (lift K 3 sp__law_wishes) := gfn F__law_wishes gl__law_wishes sc__law_wishes (fun _ _ _ _ _ _ us hl => match us, hl with | [_, _, _], _ => rfl) (d__law_wishes (P := P) (w := w) (K := K) (mg := mg) (base := base) (G__law_moment := G__law_moment) (G__law_one := G__law_one) (G__law_take := G__law_take) (f_range := f_range)) M__law_wishes
  have G__law_meal : GFn P w K mg base "_law_meal" k__law_meal ["_law_state", "_law_many", "_law_wide", "_law_wishes_here"] (lift K 4 sp__law_meal) := gfn F__law_meal gl__law_meal sc__law_meal (fun _ _ _ _ _ _ us hl => match us, hl with | [_, _, _, _], _ => rfl) (d__law_meal (P := P) (w := w) (K := K) (mg := mg) (base := base) (G__law_dishes := G__law_dishes) (G__law_names := G__law_names) (G__law_wishes := G__law_wishes)) M__law_meal
  have G_is_name : GFn P w K mg base "is_name" k_is_name ["thing"] (lift K 1 (FSp.of f_is_name)) := gfn F_is_name gl_is_name sc_is_name (fun _ _ _ _ _ _ us hl => match us, hl with | [_], _ => rfl) (d_is_name (P := P) (w := w) (K := K) (mg := mg) (base := base) (c_CLOCK := c_CLOCK) (c_LETTERS := c_LETTERS) (c_MOST_LETTERS := c_MOST_LETTERS) (f_all := f_all) (f_isinstance := f_isinstance) (f_len := f_len) (f_str := f_str)) meets
  have G_is_list : GFn P w K mg base "is_list" k_is_list ["thing"] (lift K 1 (FSp.of f_is_list)) := gfn F_is_list gl_is_list sc_is_list (fun _ _ _ _ _ _ us hl => match us, hl with | [_], _ => rfl) (d_is_list (P := P) (w := w) (K := K) (mg := mg) (base := base) (f_isinstance := f_isinstance) (f_list := f_list) (f_tuple := f_tuple)) meets
  have G_is_integer : GFn P w K mg base "is_integer" k_is_integer ["thing"] (lift K 1 (FSp.of f_is_integer)) := gfn F_is_integer gl_is_integer sc_is_integer (fun _ _ _ _ _ _ us hl => match us, hl with | [_], _ => rfl) (d_is_integer (P := P) (w := w) (K := K) (mg := mg) (base := base) (f_bool := f_bool) (f_int := f_int) (f_isinstance := f_isinstance)) meets
  have G_are_bounds : GFn P w K mg base "are_bounds" k_are_bounds ["thing"] (lift K 1 (FSp.of f_are_bounds)) := gfn F_are_bounds gl_are_bounds sc_are_bounds (fun _ _ _ _ _ _ us hl => match us, hl with | [_], _ => rfl) (d_are_bounds (P := P) (w := w) (K := K) (mg := mg) (base := base) (G_is_integer := G_is_integer) (G_is_list := G_is_list) (f_len := f_len)) meets
  have G_rising : GFn P w K mg base "rising" k_rising ["things"] (lift K 1 (FSp.of f_rising)) := gfn F_rising gl_rising sc_rising (fun _ _ _ _ _ _ us hl => match us, hl with | [_], _ => rfl) (d_rising (P := P) (w := w) (K := K) (mg := mg) (base := base) (f_len := f_len)) meets
  have G_is_among : GFn P w K mg base "is_among" k_is_among ["thing", "names"] (lift K 2 (FSp.of f_is_among)) := gfn F_is_among gl_is_among sc_is_among (fun _ _ _ _ _ _ us hl => match us, hl with | [_, _], _ => rfl) (d_is_among (P := P) (w := w) (K := K) (mg := mg) (base := base) (f_isinstance := f_isinstance) (f_str := f_str)) meets
  have G_is_moment : GFn P w K mg base "is_moment" k_is_moment ["thing", "names"] (lift K 2 (FSp.of f_is_moment)) := gfn F_is_moment gl_is_moment sc_is_moment (fun _ _ _ _ _ _ us hl => match us, hl with | [_, _], _ => rfl) (d_is_moment (P := P) (w := w) (K := K) (mg := mg) (base := base) (G_is_among := G_is_among) (G_is_list := G_is_list) (c_CLOCK := c_CLOCK) (f_isinstance := f_isinstance) (f_len := f_len) (f_str := f_str)) meets
  have G_is_wish : GFn P w K mg base "is_wish" k_is_wish ["thing", "names"] (lift K 2 (FSp.of f_is_wish)) := gfn F_is_wish gl_is_wish sc_is_wish (fun _ _ _ _ _ _ us hl => match us, hl with | [_, _], _ => rfl) (d_is_wish (P := P) (w := w) (K := K) (mg := mg) (base := base) (G_is_integer := G_is_integer) (G_is_list := G_is_list) (G_is_moment := G_is_moment) (f_len := f_len)) meets
  have Z_frozen : ∀ k, GFn P w K mg base "frozen" (2 + k) ["thing"] (lift K 1 (FSp.of (r_frozen k))) := fun k => by
    induction k with
    | zero => exact gfn (m := sNever) (k := 1) (O' := []) F_frozen gl_frozen sc_frozen (fun _ _ _ _ _ _ us hl => match us, hl with | [_], _ => rfl) (fun f cdv A outer s H E hr => vss_never) (fun ds n Q xq hl h => h.elim)
    | succ k ih => exact gfn F_frozen gl_frozen sc_frozen (fun _ _ _ _ _ _ us hl => match us, hl with | [_], _ => rfl) (d_frozen (P := P) (w := w) (K := K) (mg := mg) (base := base) (kk := 2 + k) (sf := r_frozen k) (by omega) (G_self := ih) (G_is_list := G_is_list) (f_tuple := f_tuple)) meets
  have G_frozen : GFn P w K mg base "frozen" k_frozen ["thing"] (lift K 1 (FSp.of f_frozen)) := Z_frozen 6
  have G_checked_wishes : GFn P w K mg base "checked_wishes" k_checked_wishes ["wishes", "names"] (lift K 2 (FSp.of f_checked_wishes)) := gfn F_checked_wishes gl_checked_wishes sc_checked_wishes (fun _ _ _ _ _ _ us hl => match us, hl with | [_, _], _ => rfl) (d_checked_wishes (P := P) (w := w) (K := K) (mg := mg) (base := base) (G_frozen := G_frozen) (G_is_list := G_is_list) (G_is_wish := G_is_wish) (X_BadWish := X_BadWish) (f_enumerate := f_enumerate) (f_tuple := f_tuple)) meets
  have G_is_station : GFn P w K mg base "is_station" k_is_station ["thing", "names"] (lift K 2 (FSp.of f_is_station)) := gfn_never F_is_station gl_is_station (F_is_station.bindsN (fun _ _ _ _ _ _ us hl => match us, hl with | [_, _], _ => rfl)) (fun ds n Q xq h => h)
  have I_Meal : FnOk P w K mg base (CX P w) k_Meal___init__ (He.ma K (He.ga K "Meal") "__init__") fd_Meal___init__ ["self", "dishes", "wishes", "stations"] (liftI K "Meal" 4 (FSp.of f_Meal___init__)) := dfnI F_Meal___init__ sc_Meal___init__ (O' := [0]) (by decide) (fun cdv A outer s H E hr => (d_Meal___init__ (P := P) (w := w) (K := K) (mg := mg) (base := base) (G_are_bounds := G_are_bounds) (G_checked_wishes := G_checked_wishes) (G_is_list := G_is_list) (G_is_name := G_is_name) (G_is_station := G_is_station) (G_rising := G_rising) (X_BadDish := X_BadDish) (X_BadStation := X_BadStation) (cl_Meal := cl_Meal) (f_enumerate := f_enumerate) (f_list := f_list) (f_tuple := f_tuple) (na_Meal_bounds := na_Meal_bounds) (na_Meal_station_row := na_Meal_station_row) (na_Meal_wish_row := na_Meal_wish_row)) _ cdv A outer s H E hr) meetsI
  have hB_K_Meal_3 : Binds K fd_Meal___init__ ["self", "dishes", "wishes", "stations"] [] := by
    obtain ⟨us, h1, h2⟩ := F_Meal___init__.binds1 (ps := ["self", "dishes", "wishes", "stations"]) 4 2 (by intro z; cases z) rfl (fun T kV doc pm an cdv ct us its h1 h2 => match us, its, h1, h2 with | [_, _, _, _], [_, _], _, _ => ⟨_, rfl, rfl⟩)
    cases h1
    exact h2
  have K_Meal_3 : GMk P w K mg base "Meal" "Meal" k_Meal___init__ ["self", "dishes", "wishes", "stations"] [] (FSp.of f_Meal___init__) := ⟨_, _, [], [], gl_Meal, mk_Meal, hB_K_Meal_3, .nil, fun _ _ _ => RepL.nil, fun ds n Q xq h => runI_obj h, I_Meal⟩
  have G__law_meal_of : GFn P w K mg base "_law_meal_of" k__law_meal_of ["_law_dishes_here", "_law_wishes_here", "_law_stations"] (lift K 3 (FSp.of f__law_meal_of)) := gfn F__law_meal_of gl__law_meal_of sc__law_meal_of (fun _ _ _ _ _ _ us hl => match us, hl with | [_, _, _], _ => rfl) (d__law_meal_of (P := P) (w := w) (K := K) (mg := mg) (base := base) (K_Meal_3 := K_Meal_3)) meets
  have G__law_some : GFn P w K mg base "_law_some" k__law_some ["_law_state", "_law_things"] (lift K 2 sp__law_some) := gfn F__law_some gl__law_some sc__law_some (fun _ _ _ _ _ _ us hl => match us, hl with | [_, _], _ => rfl) (d__law_some (P := P) (w := w) (K := K) (mg := mg) (base := base) (G__law_take := G__law_take)) M__law_some
  have G__law_spoilt : GFn P w K mg base "_law_spoilt" k__law_spoilt ["_law_state", "_law_names_here"] (lift K 2 sp__law_spoilt) := gfn F__law_spoilt gl__law_spoilt sc__law_spoilt (fun _ _ _ _ _ _ us hl => match us, hl with | [_, _], _ => rfl) (d__law_spoilt (P := P) (w := w) (K := K) (mg := mg) (base := base) (G__law_mix := G__law_mix) (G__law_one := G__law_one) (G__law_some := G__law_some) (G__law_take := G__law_take) (f_len := f_len)) M__law_spoilt
  have G_checked_looks : GFn P w K mg base "checked_looks" k_checked_looks ["meal", "looks"] (lift K 2 (FSp.of f_checked_looks)) := gfn F_checked_looks gl_checked_looks sc_checked_looks (fun _ _ _ _ _ _ us hl => match us, hl with | [_, _], _ => rfl) (d_checked_looks (P := P) (w := w) (K := K) (mg := mg) (base := base) (G_is_among := G_is_among) (X_NoDish := X_NoDish) (cl_Meal := cl_Meal) (f_list := f_list) (na_Meal_bounds := na_Meal_bounds)) meets
  have G_sought : GFn P w K mg base "sought" k_sought ["meal", "looks", "told", "orders"] (lift K 4 (FSp.of f_sought)) := gfn_never F_sought gl_sought (F_sought.bindsN (fun _ _ _ _ _ _ us hl => match us, hl with | [_, _, _, _], _ => rfl)) (fun ds n Q xq h => h)
  have hB_book_for : Binds K fd_book_for ["meal", "looks"] [] := by
    obtain ⟨us, h1, h2⟩ := F_book_for.binds1 (ps := ["meal", "looks"]) 2 1 (by intro z; cases z) rfl (fun T kV doc pm an cdv ct us its h1 h2 => match us, its, h1, h2 with | [_, _], [_], _, _ => ⟨_, rfl, rfl⟩)
    cases h1
    exact h2
  have G_book_for : GFn P w K mg base "book_for" k_book_for ["meal", "looks"] (lift K 2 (FSp.of f_book_for)) := gfnB F_book_for gl_book_for sc_book_for hB_book_for (d_book_for (P := P) (w := w) (K := K) (mg := mg) (base := base) (G_checked_looks := G_checked_looks) (G_sought := G_sought)) meets
  have hB_reason : Binds K fd_reason ["meal", "looks"] [] := by
    obtain ⟨us, h1, h2⟩ := F_reason.binds1 (ps := ["meal", "looks"]) 2 1 (by intro z; cases z) rfl (fun T kV doc pm an cdv ct us its h1 h2 => match us, its, h1, h2 with | [_, _], [_], _, _ => ⟨_, rfl, rfl⟩)
    cases h1
    exact h2
  have G_reason : GFn P w K mg base "reason" k_reason ["meal", "looks"] (lift K 2 (FSp.of f_reason)) := gfnB F_reason gl_reason sc_reason hB_reason (d_reason (P := P) (w := w) (K := K) (mg := mg) (base := base) (G_checked_looks := G_checked_looks) (G_sought := G_sought)) meets
  have G_is_reason_under : GFn P w K mg base "is_reason_under" k_is_reason_under ["meal", "looks", "told", "orders", "thing"] (lift K 5 (FSp.of f_is_reason_under)) := gfn_never F_is_reason_under gl_is_reason_under (F_is_reason_under.bindsN (fun _ _ _ _ _ _ us hl => match us, hl with | [_, _, _, _, _], _ => rfl)) (fun ds n Q xq h => h)
  have G_is_reason : GFn P w K mg base "is_reason" k_is_reason ["meal", "looks", "thing"] (lift K 3 (FSp.of f_is_reason)) := gfn F_is_reason gl_is_reason sc_is_reason (fun _ _ _ _ _ _ us hl => match us, hl with | [_, _, _], _ => rfl) (d_is_reason (P := P) (w := w) (K := K) (mg := mg) (base := base) (G_checked_looks := G_checked_looks) (G_is_reason_under := G_is_reason_under)) meets
  have G_enough : GFn P w K mg base "enough" k_enough ["meal", "looks"] (lift K 2 (FSp.of f_enough)) := gfn F_enough gl_enough sc_enough (fun _ _ _ _ _ _ us hl => match us, hl with | [_, _], _ => rfl) (d_enough (P := P) (w := w) (K := K) (mg := mg) (base := base) (G_book_for := G_book_for)) meets
  have G_in_place : GFn P w K mg base "in_place" k_in_place ["meal", "looks", "look", "other"] (lift K 4 (FSp.of f_in_place)) := gfn F_in_place gl_in_place sc_in_place (fun _ _ _ _ _ _ us hl => match us, hl with | [_, _, _, _], _ => rfl) (d_in_place (P := P) (w := w) (K := K) (mg := mg) (base := base) (G_checked_looks := G_checked_looks) (G_enough := G_enough) (G_is_among := G_is_among) (X_NoDish := X_NoDish) (cl_Meal := cl_Meal) (na_Meal_bounds := na_Meal_bounds)) meets
  have G__law_by_looks : GFn P w K mg base "_law_by_looks" k__law_by_looks ["_law_meal_here", "_law_bad"] (lift K 2 (FSp.of f__law_by_looks)) := gfnL (p := ("_law_by_looks", none)) F__law_by_looks rfl gl__law_by_looks sc__law_by_looks (fun _ _ _ _ _ _ us hl => match us, hl with | [_, _], _ => rfl) (d__law_by_looks (P := P) (w := w) (K := K) (mg := mg) (base := base) TB__law_by_looks hT__law_by_looks hU__law_by_looks (G_book_for := G_book_for) (G_enough := G_enough) (G_in_place := G_in_place) (G_is_reason := G_is_reason) (G_reason := G_reason) (U__law_refused := U__law_refused)) meets
  have G_check_dish : GFn P w K mg base "check_dish" k_check_dish ["name", "names"] (lift K 2 (FSp.of f_check_dish)) := gfn F_check_dish gl_check_dish sc_check_dish (fun _ _ _ _ _ _ us hl => match us, hl with | [_, _], _ => rfl) (d_check_dish (P := P) (w := w) (K := K) (mg := mg) (base := base) (G_is_among := G_is_among) (X_NoDish := X_NoDish)) meets
  have G_checked_names : GFn P w K mg base "checked_names" k_checked_names ["meal", "names"] (lift K 2 (FSp.of f_checked_names)) := gfn F_checked_names gl_checked_names sc_checked_names (fun _ _ _ _ _ _ us hl => match us, hl with | [_, _], _ => rfl) (d_checked_names (P := P) (w := w) (K := K) (mg := mg) (base := base) (G_check_dish := G_check_dish) (cl_Meal := cl_Meal) (f_list := f_list) (na_Meal_bounds := na_Meal_bounds)) meets
  have G_ways : GFn P w K mg base "ways" k_ways ["meal", "looks", "wishes"] (lift K 3 (FSp.of f_ways)) := gfn_never F_ways gl_ways (F_ways.bindsN (fun _ _ _ _ _ _ us hl => match us, hl with | [_, _, _], _ => rfl)) (fun ds n Q xq h => h)
  have hB_soonest : Binds K fd_soonest ["meal", "names", "looks"] [] := by
    obtain ⟨us, h1, h2⟩ := F_soonest.binds1 (ps := ["meal", "names", "looks"]) 3 1 (by intro z; cases z) rfl (fun T kV doc pm an cdv ct us its h1 h2 => match us, its, h1, h2 with | [_, _, _], [_], _, _ => ⟨_, rfl, rfl⟩)
    cases h1
    exact h2
  have G_soonest : GFn P w K mg base "soonest" k_soonest ["meal", "names", "looks"] (lift K 3 (FSp.of f_soonest)) := gfnB F_soonest gl_soonest sc_soonest hB_soonest (d_soonest (P := P) (w := w) (K := K) (mg := mg) (base := base) (G_checked_looks := G_checked_looks) (G_checked_names := G_checked_names) (G_ways := G_ways) (cl_Meal := cl_Meal) (na_Meal_wish_row := na_Meal_wish_row)) meets
  have hB_closest : Binds K fd_closest ["meal", "names", "looks"] [] := by
    obtain ⟨us, h1, h2⟩ := F_closest.binds1 (ps := ["meal", "names", "looks"]) 3 1 (by intro z; cases z) rfl (fun T kV doc pm an cdv ct us its h1 h2 => match us, its, h1, h2 with | [_, _, _], [_], _, _ => ⟨_, rfl, rfl⟩)
    cases h1
    exact h2
  have G_closest : GFn P w K mg base "closest" k_closest ["meal", "names", "looks"] (lift K 3 (FSp.of f_closest)) := gfnB F_closest gl_closest sc_closest hB_closest (d_closest (P := P) (w := w) (K := K) (mg := mg) (base := base) (G_checked_looks := G_checked_looks) (G_checked_names := G_checked_names) (G_ways := G_ways) (cl_Meal := cl_Meal) (na_Meal_wish_row := na_Meal_wish_row)) meets
  have G__law_by_names : GFn P w K mg base "_law_by_names" k__law_by_names ["_law_meal_here", "_law_names_here", "_law_bad"] (lift K 3 (FSp.of f__law_by_names)) := gfnL (p := ("_law_by_names", none)) F__law_by_names rfl gl__law_by_names sc__law_by_names (fun _ _ _ _ _ _ us hl => match us, hl with | [_, _, _], _ => rfl) (d__law_by_names (P := P) (w := w) (K := K) (mg := mg) (base := base) TB__law_by_names hT__law_by_names hU__law_by_names (G_closest := G_closest) (G_soonest := G_soonest) (U__law_refused := U__law_refused)) meets
  have Z__law_same : ∀ k, GFn P w K mg base "_law_same" (1 + k) ["_law_found", "_law_due"] (lift K 2 (FSp.of (r__law_same k))) := fun k => by
    induction k with
    | zero => exact gfn (m := sNever) (k := 0) (O' := []) F__law_same gl__law_same sc__law_same (fun _ _ _ _ _ _ us hl => match us, hl with | [_, _], _ => rfl) (fun f cdv A outer s H E hr => vss_never) (fun ds n Q xq hl h => h.elim)
    | succ k ih => exact gfn F__law_same gl__law_same sc__law_same (fun _ _ _ _ _ _ us hl => match us, hl with | [_, _], _ => rfl) (d__law_same (P := P) (w := w) (K := K) (mg := mg) (base := base) (kk := 1 + k) (sf := r__law_same k) (by omega) (G_self := ih) (f_all := f_all) (f_bool := f_bool) (f_int := f_int) (f_isinstance := f_isinstance) (f_len := f_len) (f_list := f_list) (f_tuple := f_tuple) (f_zip := f_zip)) meets
  have G__law_same : GFn P w K mg base "_law_same" k__law_same ["_law_found", "_law_due"] (lift K 2 (FSp.of f__law_same)) := Z__law_same 6
  have G_Meal_check_index : GMe P w K mg base "Meal" "check_index" k_Meal_check_index ["self", "index"] [] (lift K 2 (FSp.of f_Meal_check_index)) := ⟨_, _, [], [], cl_Meal, me_Meal_check_index, F_Meal_check_index.bindsN (fun _ _ _ _ _ _ us hl => match us, hl with | [_, _], _ => rfl), .nil, fun _ _ _ => RepL.nil, dfn F_Meal_check_index sc_Meal_check_index (O' := []) (fun cdv A outer s H E hr => (d_Meal_check_index (P := P) (w := w) (K := K) (mg := mg) (base := base) (G_is_integer := G_is_integer) (X_NoWish := X_NoWish) (cl_Meal := cl_Meal) (f_len := f_len) (na_Meal_wish_row := na_Meal_wish_row)) _ cdv A outer s H E hr) meets⟩
  have hB_least_most : Binds K fd_least_most ["meal", "index", "looks"] [] := by
    obtain ⟨us, h1, h2⟩ := F_least_most.binds1 (ps := ["meal", "index", "looks"]) 3 1 (by intro z; cases z) rfl (fun T kV doc pm an cdv ct us its h1 h2 => match us, its, h1, h2 with | [_, _, _], [_], _, _ => ⟨_, rfl, rfl⟩)
    cases h1
    exact h2
  have G_least_most : GFn P w K mg base "least_most" k_least_most ["meal", "index", "looks"] (lift K 3 (FSp.of f_least_most)) := gfnB F_least_most gl_least_most sc_least_most hB_least_most (d_least_most (P := P) (w := w) (K := K) (mg := mg) (base := base) (G_Meal_check_index := G_Meal_check_index) (G_checked_looks := G_checked_looks)) meets
  obtain ⟨ff, fdf, g1, g2, g3, g4⟩ := ok_fresh (P := P) (w := w) (base := base) F__law_fresh gl__law_fresh f_list
  exact law_topL (p0 := ("law", none)) F_law rfl sc_law (by decide) (fun cdv A outer s H E hr => ps_set (i := 1) sc_law.nd rfl (by first | exact .inl rfl | exact .inr rfl) (pe_call g4 (DL.Room.le hr (by decide)) rfl g1 g2 g3 .nil passT (pa_cons (pv 0) pa_nil))) (d_law (P := P) (w := w) (K := K) (mg := mg) (base := base) TB_law hT_law hU_law (G__law_by_looks := G__law_by_looks) (G__law_by_names := G__law_by_names) (G__law_meal := G__law_meal) (G__law_meal_of := G__law_meal_of) (G__law_same := G__law_same) (G__law_spoilt := G__law_spoilt) (G__law_take := G__law_take) (G_in_place := G_in_place) (G_least_most := G_least_most) (U__law_refused := U__law_refused) (f_all := f_all) (f_len := f_len) (f_list := f_list) (f_range := f_range)) M_law
end DL.K34
open PySem PySem.W PySem.Calls PyProof.Rows
theorem PySem.Challenge.cw_cookcalls_k34_looks_refused_holds : PySem.Challenge.rw_cookcalls_k34_looks_refused.Holds := by
  w_on; o_law
  refine HandSHeadRun.head_any (r := OpenLaw.row PySem.Challenge.rw_cookcalls_k34_looks_refused) (q := view (OpenLaw.row PySem.Challenge.rw_cookcalls_k34_looks_refused).prog [106]) (H := DL.K34.hk) (ob := DL.K34.ob) (M := 9000) (loose := DL.K34.loose) (d := HandSHeadRun.topDef (OpenLaw.row PySem.Challenge.rw_cookcalls_k34_looks_refused).prog 106) (kwd := []) DL.K34.ob_eq
    (by kernel_rfl) (fun s => by kernel_rfl) DL.K34.run (by kernel_rfl) (by kernel_rfl) (by kernel_rfl) (by rfl) (by first | assumption | decide +kernel) (by decide +kernel) ⟨rfl, rfl, rfl, rfl, rfl, by decide +kernel⟩ ?hw ?hc
  case hw => w_witness2
  case hc =>
    refine LamX.walk_ofTsE (l := PySem.Challenge.rw_cookcalls_k34_looks_refused) (n := 63) (k := DL.K34.k_law) (x := "_law_script") (CX := fun w => L2.CX (PySem.Challenge.rw_cookcalls_k34_looks_refused).prog w) rfl (by decide) (by kernel_rfl) ⟨rfl, by decide, by decide⟩ ?F (fun w H s e s' h => DL.cx_end H s e s' ⟨_, _, h⟩)
    intro w mg fa h Y G hmg0
    obtain ⟨K, KX, c⟩ := Y
    have hmg : mg ("law" : PySem.Str) = some (.ref fa) := by
      have e : (HandSHeadRun.topDef (OpenLaw.row PySem.Challenge.rw_cookcalls_k34_looks_refused).prog 106).name = ("law" : PySem.Str) := by kernel_rfl
      rw [← e]
      exact hmg0
    obtain ⟨fd, hb, hF⟩ := DL.K34.facts (P := (PySem.Challenge.rw_cookcalls_k34_looks_refused).prog) (w := w) KX G hmg c (by kernel_rfl)
    refine ⟨K, KX, fd, DL.K34.tf.map (He.cT K), DL.K34.spL K, ?_, ?_, ?_, hb, ?_, fun base h1 h2 h3 => hF base h1 h2 fun p hp => h3 _ (List.mem_map.mpr ⟨p, hp, rfl⟩)⟩
    · intro p hp
      obtain ⟨d, hd, rfl⟩ := List.mem_map.mp hp
      exact c.empty d hd
    · intro p hp
      obtain ⟨d, hd, rfl⟩ := List.mem_map.mp hp
      exact c.out d hd
    · intro p hp
      obtain ⟨d, hd, rfl⟩ := List.mem_map.mp hp
      exact PySem.W.codeHd_of_K KX (c.hd d hd)
    · intro H a ns hl hbits hT hS
      refine ⟨a, ns, rfl, hS, ⟨@DL.tabs_new (DL.K34.tabK K) _ _ fun p hp => ?_, fun _ _ _ => trivial⟩, fun _ => rfl⟩
      obtain ⟨d, hd, e⟩ := DL.K34.tab_in hp
      rw [e]
      exact hT _ (List.mem_map.mpr ⟨d, hd, rfl⟩)
