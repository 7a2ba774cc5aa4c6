import PyProof.Rows.All
import HandS.ForMost
import HandS.ForExc
import HandS.Conv
import HandS.Walk
import HandS.IsInst
import HandS.Flow
import HandS.Wide
import HandS.TupAny
import HandS.Deep
import HandS.Strs
import KE.GoesEnum
import HandS.Zip
import HandS.Defaults
import HandS.DictComp
import HandS.Words
import HandS.HeadHook4
import Wide.All
import OpenK.AllK
import Wide.FinOn
import KE.KStateDown
import HandS.WordsExc
import HandS.Ends
import HandS.More
import HandS.Head0
import HandS.Head1
import HandS.Head2
import HandS.HeadEnd
import HandS.HeadHook1
import PySem.Challenge.RW_cookcalls_k05_wishes_made
set_option Elab.async false
set_option linter.all false
set_option maxRecDepth 100000
set_option maxHeartbeats 0
namespace DL
open PySem PySem.Spec PyProof.Rows L2
/-! data: a value without its addresses -/
abbrev AS := Addr → Prop
inductive D where
  | non | bl (b : Bool) | int (i : Int) | str (x : Str) | raw (v : V) | st
  | tup (xs : List D) | lst (xs : List D) | dic (kvs : List (Key × D)) | obj (C : Addr) (fs : List (Str × D))

/-- a tuple: tracked, or the module's own -/
def TpA (K : PySem.W.Frag) (H : Hp) (a : Addr) (xs : List V) : Prop :=
  H a = some (.tup xs) ∨ ∃ (o : Obj) (its : Array Value) (n : Nat), K.lookup a = some o ∧ o.cls = .type "tuple" ∧ o.data = .seq its n ∧ its.size ≤ sizeLine ∧ Vals xs its.toList
theorem TpA.sq {K : PySem.W.Frag} {H : Hp} {a : Addr} {xs : List V} (h : TpA K H a xs) : SqT K H a xs := h.elim (fun h => .inl (.inl h)) fun h => .inr h
mutual
def Rep (K : PySem.W.Frag) (aS : Addr) (H : Hp) (A : AS) : D → V → Prop
  | .non, v => v = .non
  | .bl b, v => v = .bl b
  | .int i, v => v = .int i
  | .str x, v => v = .str x
  | .raw u, v => v = u
  | .st, v => v = .ref aS
  | .tup ds, v => ∃ a xs, v = .ref a ∧ TpA K H a xs ∧ RepL K aS H A ds xs
  | .lst ds, v => ∃ a xs, v = .ref a ∧ ¬ A a ∧ H a = some (.lst xs) ∧ RepL K aS H A ds xs
  | .dic kvs, v => ∃ a ys, v = .ref a ∧ ¬ A a ∧ Rd H a (.dK ys) ∧ RepK K aS H A kvs ys
  | .obj C fs, v => ∃ a dx ys, v = .ref a ∧ ¬ A a ∧ H a = some (.ins C dx ys) ∧ RepF K aS H A fs ys
def RepL (K : PySem.W.Frag) (aS : Addr) (H : Hp) (A : AS) : List D → List V → Prop
  | [], vs => vs = []
  | d :: ds, vs => ∃ v vr, vs = v :: vr ∧ Rep K aS H A d v ∧ RepL K aS H A ds vr
def RepK (K : PySem.W.Frag) (aS : Addr) (H : Hp) (A : AS) : List (Key × D) → List (Key × V) → Prop
  | [], vs => vs = []
  | (k, d) :: ds, vs => ∃ v vr, vs = (k, v) :: vr ∧ Rep K aS H A d v ∧ RepK K aS H A ds vr
def RepF (K : PySem.W.Frag) (aS : Addr) (H : Hp) (A : AS) : List (Str × D) → List (Str × V) → Prop
  | [], vs => vs = []
  | (k, d) :: ds, vs => ∃ v vr, vs = (k, v) :: vr ∧ Rep K aS H A d v ∧ RepF K aS H A ds vr
end
section
variable {K : PySem.W.Frag} {aS : Addr} {H H' : Hp} {A A' : AS}
/-- what a heap's change must keep -/
structure Sub (K : PySem.W.Frag) (H H' : Hp) (A A' : AS) : Prop where
  l : ∀ a xs, ¬ A a → H a = some (.lst xs) → ¬ A' a ∧ H' a = some (.lst xs)
  t : ∀ a xs, TpA K H a xs → TpA K H' a xs
  d : ∀ a ys, ¬ A a → Rd H a (.dK ys) → ¬ A' a ∧ Rd H' a (.dK ys)
  o : ∀ a C dx ys, ¬ A a → H a = some (.ins C dx ys) → ¬ A' a ∧ H' a = some (.ins C dx ys)
mutual
theorem Rep.mono (S : Sub K H H' A A') : ∀ (d : D) (v : V), Rep K aS H A d v → Rep K aS H' A' d v
  | .non, v, h => by rw [Rep] at h ⊢; exact h
  | .bl b, v, h => by rw [Rep] at h ⊢; exact h
  | .int i, v, h => by rw [Rep] at h ⊢; exact h
  | .str x, v, h => by rw [Rep] at h ⊢; exact h
  | .raw u, v, h => by rw [Rep] at h ⊢; exact h
  | .st, v, h => by rw [Rep] at h ⊢; exact h
  | .tup ds, v, h => by
    rw [Rep] at h ⊢
    obtain ⟨a, xs, e, q, r⟩ := h
    exact ⟨a, xs, e, S.t a xs q, RepL.mono S ds xs r⟩
  | .lst ds, v, h => by
    rw [Rep] at h ⊢
    obtain ⟨a, xs, e, n, q, r⟩ := h
    obtain ⟨n', q'⟩ := S.l a xs n q
    exact ⟨a, xs, e, n', q', RepL.mono S ds xs r⟩
  | .dic kvs, v, h => by
    rw [Rep] at h ⊢
    obtain ⟨a, ys, e, n, q, r⟩ := h
    obtain ⟨n', q'⟩ := S.d a ys n q
    exact ⟨a, ys, e, n', q', RepK.mono S kvs ys r⟩
  | .obj C fs, v, h => by
    rw [Rep] at h ⊢
    obtain ⟨a, dx, ys, e, n, q, r⟩ := h
    obtain ⟨n', q'⟩ := S.o a C dx ys n q
    exact ⟨a, dx, ys, e, n', q', RepF.mono S fs ys r⟩
theorem RepL.mono (S : Sub K H H' A A') : ∀ (ds : List D) (vs : List V), RepL K aS H A ds vs → RepL K aS H' A' ds vs
  | [], vs, h => by rw [RepL] at h ⊢; exact h
  | d :: ds, vs, h => by
    rw [RepL] at h ⊢
    obtain ⟨v, vr, e, r, q⟩ := h
    exact ⟨v, vr, e, Rep.mono S d v r, RepL.mono S ds vr q⟩
theorem RepK.mono (S : Sub K H H' A A') : ∀ (ds : List (Key × D)) (vs : List (Key × V)), RepK K aS H A ds vs → RepK K aS H' A' ds vs
  | [], vs, h => by rw [RepK] at h ⊢; exact h
  | (k, d) :: ds, vs, h => by
    rw [RepK] at h ⊢
    obtain ⟨v, vr, e, r, q⟩ := h
    exact ⟨v, vr, e, Rep.mono S d v r, RepK.mono S ds vr q⟩
theorem RepF.mono (S : Sub K H H' A A') : ∀ (ds : List (Str × D)) (vs : List (Str × V)), RepF K aS H A ds vs → RepF K aS H' A' ds vs
  | [], vs, h => by rw [RepF] at h ⊢; exact h
  | (k, d) :: ds, vs, h => by
    rw [RepF] at h ⊢
    obtain ⟨v, vr, e, r, q⟩ := h
    exact ⟨v, vr, e, Rep.mono S d v r, RepF.mono S ds vr q⟩
end
end
end DL
namespace DL
open PySem PySem.Spec PyProof.Rows L2
abbrev Ev := List (Option D)
/-- the state of the draws -/
def StA (K : PySem.W.Frag) (aS : Addr) (H : Hp) (n : Nat) : Prop := ∃ (a0 : Addr) (cs : List Int) (i g m d : Int), H aS = some (.lst [.ref a0, .int i, .int g, .int m, .int d]) ∧ a0 ≠ aS ∧
  (∃ o, H a0 = some (.frz o (.lst (cs.map V.int)))) ∧ 0 ≤ i ∧ 0 ≤ g ∧ 0 ≤ m ∧ m < 2147483647 ∧ 0 ≤ d ∧ d ≤ n
/-- all that is tracked, but the state, is kept -/
def KpS (aS : Addr) (H H' : Hp) : Prop := ∀ b u, H b = some u → b ≠ aS → H' b = some u
/-- an exception: its class and fields -/
abbrev XD := Addr × List (Str × D)
abbrev XQ := XD → Nat → Prop
abbrev EM (α : Type) := XQ → Ev → Nat → (α → Nat → Prop) → Prop
/-- what the caller keeps for himself; the instance that slot 0 owns, in an __init__ -/
structure A0T where
  p : Addr → Prop
  z : Option Addr := none
instance : CoeFun A0T (fun _ => Addr → Prop) := ⟨A0T.p⟩
instance : Coe A0T (Addr → Prop) := ⟨A0T.p⟩
/-- what may not be met: what the caller keeps for himself, the state, what slots own -/
def AV (aS : Addr) (A0 : AS) (O : List Nat) (σ : L2.St) : AS := fun a => A0 a ∨ a = aS ∨ ∃ i, i ∈ O ∧ σ[i]? = some (some (.ref a))
/-- an own list | dict | instance -/
def Own (K : PySem.W.Frag) (aS : Addr) (H : Hp) (A : AS) (a : Addr) : D → Prop
  | .lst ds => ∃ xs, H a = some (.lst xs) ∧ RepL K aS H A ds xs
  | .dic kvs => ∃ ys, H a = some (.dK ys) ∧ RepK K aS H A kvs ys
  | .obj C fs => ∃ dx ys, H a = some (.ins C dx ys) ∧ RepF K aS H A fs ys
  | _ => False
structure SR (K : PySem.W.Frag) (aS : Addr) (O : List Nat) (A0 : A0T) (H0 : Hp) (σ : L2.St) (H : Hp) (s : Ev) (n : Nat) : Prop where
  len : σ.length = s.length
  sh : ∀ i d, s[i]? = some (some d) → i ∉ O → ∃ v, σ[i]? = some (some v) ∧ Rep K aS H (AV aS A0 O σ) d v
  ow : ∀ i, i ∈ O → ∃ d a, s[i]? = some (some d) ∧ σ[i]? = some (some (.ref a)) ∧ H0 a = none ∧ ¬ A0 a ∧ a ≠ aS ∧ Own K aS H (AV aS A0 O σ) a d
  ds : ∀ i j a, i ∈ O → j ∈ O → σ[i]? = some (some (.ref a)) → σ[j]? = some (some (.ref a)) → i = j
  fr : KpS aS H0 H
  st : StA K aS H n
  av : ∀ a, A0 a → ∃ u, H a = some u
  pn : 0 ∈ O → ∀ a, A0.z = some a → σ[0]? = some (some (.ref a))
section
variable {K : PySem.W.Frag} {aS : Addr} {H H' H'' H0 : Hp} {A A' : AS} {A0 : A0T} {O : List Nat} {σ : L2.St} {s : Ev} {n n' : Nat}
theorem KpS.refl : KpS aS H H := fun _ _ h _ => h
theorem KpS.trans (a : KpS aS H H') (b : KpS aS H' H'') : KpS aS H H'' := fun x u h n => b x u (a x u h n) n
theorem KpS.upd {p : Addr} {o : HO} (h : H p = none) : KpS aS H (upd H p o) := fun b u e _ => by rw [upd_ne (ne_of_none e h)]; exact e
theorem StA.lst (h : StA K aS H n) : ∃ xs, H aS = some (.lst xs) := by
  obtain ⟨a0, cs, i, g, m, d, e, _⟩ := h
  exact ⟨_, e⟩
theorem StA.mono (h : StA K aS H n) (hn : n ≤ n') : StA K aS H n' := by
  obtain ⟨a0, cs, i, g, m, d, e, h1, h2, h3, h4, h5, h6, h7, h8⟩ := h
  exact ⟨a0, cs, i, g, m, d, e, h1, h2, h3, h4, h5, h6, h7, by omega⟩
theorem SqL.kp (k : KpS aS H H') {a : Addr} {xs : List V} (hn : a ≠ aS) (h : SqL K H a xs) : SqL K H' a xs := by
  refine h.imp_left fun rd => ?_
  exact rd.imp (fun at_ => k _ _ at_ hn) fun ⟨o, at_⟩ => ⟨o, k _ _ at_ hn⟩
theorem TpA.kp (k : KpS aS H H') {a : Addr} {xs ys : List V} (hs : H aS = some (.lst ys)) (h : TpA K H a xs) : TpA K H' a xs := by
  rcases h with h | h
  · exact .inl (k _ _ h fun e => by rw [e, hs] at h; cases h)
  · exact .inr h
theorem Rd.kp (k : KpS aS H H') {a : Addr} {u : HO} (hn : a ≠ aS) (h : Rd H a u) : Rd H' a u := by
  rcases h with h | ⟨o, h⟩
  · exact .inl (k _ _ h hn)
  · exact .inr ⟨o, k _ _ h hn⟩
theorem sub_kp (k : KpS aS H H') (hs : ∃ ys, H aS = some (.lst ys)) (hA : A aS) (hle : ∀ a, A' a → A a) : Sub K H H' A A' := by
  obtain ⟨ys, hs⟩ := hs
  have ne : ∀ a, ¬ A a → a ≠ aS := fun a h e => h (e ▸ hA)
  exact ⟨fun a xs h q => ⟨fun z => h (hle a z), k _ _ q (ne a h)⟩, fun a xs q => TpA.kp k hs q, fun a ys h q => ⟨fun z => h (hle a z), Rd.kp k (ne a h) q⟩, fun a C dx ys h q => ⟨fun z => h (hle a z), k _ _ q (ne a h)⟩⟩
theorem AV.st {A0 : AS} : AV aS A0 O σ aS := .inr (.inl rfl)
theorem Rep.kp (k : KpS aS H H') (hs : StA K aS H n) (hA : A aS) {d : D} {v : V} (r : Rep K aS H A d v) : Rep K aS H' A d v := Rep.mono (sub_kp k hs.lst hA fun _ z => z) d v r
theorem RepL.kp (k : KpS aS H H') (hs : StA K aS H n) (hA : A aS) {d : List D} {v : List V} (r : RepL K aS H A d v) : RepL K aS H' A d v := RepL.mono (sub_kp k hs.lst hA fun _ z => z) d v r
theorem RepK.kp (k : KpS aS H H') (hs : StA K aS H n) (hA : A aS) {d : List (Key × D)} {v : List (Key × V)} (r : RepK K aS H A d v) : RepK K aS H' A d v := RepK.mono (sub_kp k hs.lst hA fun _ z => z) d v r
theorem RepF.kp (k : KpS aS H H') (hs : StA K aS H n) (hA : A aS) {d : List (Str × D)} {v : List (Str × V)} (r : RepF K aS H A d v) : RepF K aS H' A d v := RepF.mono (sub_kp k hs.lst hA fun _ z => z) d v r
theorem Own.kp (k : KpS aS H H') (hs : StA K aS H n) (hA : A aS) {d : D} {a : Addr} (ha : a ≠ aS) (r : Own K aS H A a d) : Own K aS H' A a d := by
  cases d with
  | lst ds => obtain ⟨xs, e, q⟩ := r; exact ⟨xs, k _ _ e ha, q.kp k hs hA⟩
  | dic ds => obtain ⟨xs, e, q⟩ := r; exact ⟨xs, k _ _ e ha, q.kp k hs hA⟩
  | obj C ds => obtain ⟨dx, xs, e, q⟩ := r; exact ⟨dx, xs, k _ _ e ha, q.kp k hs hA⟩
  | _ => exact r
/-- behind an expression -/
theorem SR.step (S : SR K aS O A0 H0 σ H s n) (k : KpS aS H H') (t : StA K aS H' n') : SR K aS O A0 H0 σ H' s n' where
  len := S.len
  sh := fun i d h1 h2 => let ⟨v, e, r⟩ := S.sh i d h1 h2; ⟨v, e, r.kp k S.st AV.st⟩
  ow := fun i h => let ⟨d, a, e1, e2, e3, e4, e5, e6⟩ := S.ow i h; ⟨d, a, e1, e2, e3, e4, e5, e6.kp k S.st AV.st e5⟩
  ds := S.ds
  fr := S.fr.trans k
  st := t
  av := fun a h => by
    obtain ⟨u, e⟩ := S.av a h
    by_cases ha : a = aS
    · obtain ⟨xs, q⟩ := t.lst
      exact ⟨_, ha ▸ q⟩
    · exact ⟨u, k _ _ e ha⟩
  pn := S.pn
theorem SR.up (S : SR K aS O A0 H0 σ H s n) (h : n ≤ n') : SR K aS O A0 H0 σ H s n' := ⟨S.len, S.sh, S.ow, S.ds, S.fr, S.st.mono h, S.av, S.pn⟩
theorem SR.new (S : SR K aS O A0 H0 σ H s n) {a : Addr} (h : H a = none) : ¬ AV aS A0 O σ a := fun z => by
  rcases z with z | z | ⟨i, hi, z⟩
  · obtain ⟨u, e⟩ := S.av a z
    rw [h] at e; cases e
  · obtain ⟨xs, q⟩ := S.st.lst
    rw [z, q] at h; cases h
  · obtain ⟨d, b, e1, e2, e3, e4, e5, e6⟩ := S.ow i hi
    rw [z] at e2
    cases e2
    cases d with
    | lst ds => obtain ⟨xs, e, q⟩ := e6; rw [h] at e; cases e
    | dic ds => obtain ⟨xs, e, q⟩ := e6; rw [h] at e; cases e
    | obj C ds => obtain ⟨dx, xs, e, q⟩ := e6; rw [h] at e; cases e
    | _ => exact e6.elim
end
/-- what is wanted of a raise -/
def LX (K : PySem.W.Frag) (E : XK) (aS : Addr) (A0 : AS) (H0 : Hp) (xq : XQ) : Prop :=
  ∀ (C : Addr) (fs : List (Str × D)) (n : Nat) (d : Option Addr) (H' : Hp), KpS aS H0 H' → StA K aS H' n → (match d with | none => fs = [] | some a => ∃ ys, H0 a = none ∧ H' a = some (.xd ys) ∧ RepF K aS H' (AV aS A0 [] []) fs ys) → xq (C, fs) n → E (.ref C) d H'
/-- .. its own place may be owned -/
def RepB (K : PySem.W.Frag) (aS : Addr) (H : Hp) (A : AS) : D → V → Prop
  | .lst ds, v => ∃ a xs, v = .ref a ∧ a ≠ aS ∧ H a = some (.lst xs) ∧ RepL K aS H A ds xs
  | .dic kvs, v => ∃ a ys, v = .ref a ∧ a ≠ aS ∧ Rd H a (.dK ys) ∧ RepK K aS H A kvs ys
  | .obj C fs, v => ∃ a dx ys, v = .ref a ∧ a ≠ aS ∧ H a = some (.ins C dx ys) ∧ RepF K aS H A fs ys
  | d, v => Rep K aS H A d v
abbrev RK := PySem.W.Frag → Addr → Hp → AS → D → V → Prop
def Mn {α : Type} (m : EM α) : Prop := ∀ xq s n (Q Q' : α → Nat → Prop), (∀ d n', Q d n' → Q' d n') → m xq s n Q → m xq s n Q'
/-- an expression read over data -/
def VX (R : RK) (X : Cx) (E : XK) (O : List Nat) (e : Expr) (m : EM D) : Prop := Mn m ∧ ∃ t, PE X e t ∧ ∀ (aS : Addr) (A0 : A0T) (H0 : Hp) (σ : L2.St) (H : Hp) (s : Ev) (n : Nat) (xq : XQ) (Q : VK), SR X.K aS O A0 H0 σ H s n → LX X.K E aS A0 H0 xq →
  m xq s n (fun d n' => ∀ v H', KpS aS H H' → StA X.K aS H' n' → R X.K aS H' (AV aS A0 O σ) d v → Q v H') → t σ H Q
abbrev VE := VX Rep
abbrev VB := VX RepB
/-- .. a new object -/
def VF (X : Cx) (E : XK) (O : List Nat) (e : Expr) (m : EM D) : Prop := Mn m ∧ ∃ t, PE X e t ∧ ∀ (aS : Addr) (A0 : A0T) (H0 : Hp) (σ : L2.St) (H : Hp) (s : Ev) (n : Nat) (xq : XQ) (Q : VK), SR X.K aS O A0 H0 σ H s n → LX X.K E aS A0 H0 xq →
  m xq s n (fun d n' => ∀ a H', H a = none → KpS aS H H' → StA X.K aS H' n' → Own X.K aS H' (fun b => AV aS A0 O σ b ∨ b = a) a d → Q (.ref a) H') → t σ H Q
/-- a test -/
def VT (X : Cx) (E : XK) (O : List Nat) (e : Expr) (m : EM Bool) : Prop := Mn m ∧ ∃ t, PT X e t ∧ ∀ (aS : Addr) (A0 : A0T) (H0 : Hp) (σ : L2.St) (H : Hp) (s : Ev) (n : Nat) (xq : XQ) (Q : Bool → Hp → Prop), SR X.K aS O A0 H0 σ H s n → LX X.K E aS A0 H0 xq →
  m xq s n (fun b n' => ∀ H', KpS aS H H' → StA X.K aS H' n' → Q b H') → t σ H Q
/-- arguments -/
def RL (R : RK) (K : PySem.W.Frag) (aS : Addr) (H : Hp) (A : AS) : List D → List V → Prop
  | [], vs => vs = []
  | d :: ds, vs => ∃ v vr, vs = v :: vr ∧ R K aS H A d v ∧ RL R K aS H A ds vr
def VA (R : RK) (X : Cx) (E : XK) (O : List Nat) (es : List Expr) (m : EM (List D)) : Prop := Mn m ∧ ∃ t, PA X es t ∧ ∀ (aS : Addr) (A0 : A0T) (H0 : Hp) (σ : L2.St) (H : Hp) (s : Ev) (n : Nat) (xq : XQ) (Q : List V → Hp → Prop), SR X.K aS O A0 H0 σ H s n → LX X.K E aS A0 H0 xq →
  m xq s n (fun d n' => ∀ v H', KpS aS H H' → StA X.K aS H' n' → RL R X.K aS H' (AV aS A0 O σ) d v → Q v H') → t σ H Q
/-- statements -/
structure DE where
  nx : Ev → Nat → Prop
  rt : D → Nat → Prop
  bk : Ev → Nat → Prop := fun _ _ => False
  ct : Ev → Nat → Prop := fun _ _ => False
abbrev SM := XQ → DE → Ev → Nat → Prop
structure LK (K : PySem.W.Frag) (aS : Addr) (O OL : List Nat) (A0 : A0T) (H0 : Hp) (de : DE) (De : Ends) : Prop where
  nx : ∀ σ H s n, SR K aS O A0 H0 σ H s n → de.nx s n → De.nx σ H
  rt : ∀ v H d n, KpS aS H0 H → StA K aS H n → Rep K aS H (AV aS A0 [] []) d v → de.rt d n → De.rt v H
  bk : ∀ σ H s n, SR K aS OL A0 H0 σ H s n → de.bk s n → De.bk σ H
  ct : ∀ σ H s n, SR K aS OL A0 H0 σ H s n → de.ct s n → De.ct σ H
def VS (X : Cx) (E : XK) (O O' OL : List Nat) (st : Stmt) (m : SM) : Prop := ∃ t, PS X st t ∧ ∀ (aS : Addr) (A0 : A0T) (H0 : Hp) (σ : L2.St) (H : Hp) (s : Ev) (n : Nat) (xq : XQ) (de : DE) (De : Ends), SR X.K aS O A0 H0 σ H s n → LX X.K E aS A0 H0 xq →
  LK X.K aS O' OL A0 H0 de De → m xq de s n → t De σ H
def VSs (X : Cx) (E : XK) (O O' OL : List Nat) (st : List Stmt) (m : SM) : Prop := ∃ t, PSs X st t ∧ ∀ (aS : Addr) (A0 : A0T) (H0 : Hp) (σ : L2.St) (H : Hp) (s : Ev) (n : Nat) (xq : XQ) (de : DE) (De : Ends), SR X.K aS O A0 H0 σ H s n → LX X.K E aS A0 H0 xq →
  LK X.K aS O' OL A0 H0 de De → m xq de s n → t De σ H
end DL
namespace DL
open PySem PySem.Spec PyProof.Rows L2
section
variable {K : PySem.W.Frag} {aS : Addr} {H H' H'' H0 : Hp} {A A' : AS} {A0 : A0T} {O : List Nat} {σ : L2.St} {s : Ev} {n n' : Nat} {R : RK}
theorem StA.kp (k : ∀ b u, H b = some u → H' b = some u) (h : StA K aS H n) : StA K aS H' n := by
  obtain ⟨a0, cs, i, g, m, d, e, h1, ⟨o, h2⟩, h3⟩ := h
  exact ⟨a0, cs, i, g, m, d, k _ _ e, h1, ⟨o, k _ _ h2⟩, h3⟩
theorem StA.upd {p : Addr} {o : HO} (hp : H p = none) (h : StA K aS H n) : StA K aS (upd H p o) n := h.kp fun b u e => by rw [upd_ne (ne_of_none e hp)]; exact e
theorem Rep.b (hA : A aS) {d : D} {v : V} (r : Rep K aS H A d v) : RepB K aS H A d v := by
  cases d with
  | lst ds => rw [Rep] at r; obtain ⟨a, xs, e, n, q⟩ := r; exact ⟨a, xs, e, fun z => n (z ▸ hA), q⟩
  | dic ds => rw [Rep] at r; obtain ⟨a, xs, e, n, q⟩ := r; exact ⟨a, xs, e, fun z => n (z ▸ hA), q⟩
  | obj C ds => rw [Rep] at r; obtain ⟨a, dx, xs, e, n, q⟩ := r; exact ⟨a, dx, xs, e, fun z => n (z ▸ hA), q⟩
  | _ => exact r
theorem RepB.kp (k : KpS aS H H') (hs : StA K aS H n) (hA : A aS) {d : D} {v : V} (r : RepB K aS H A d v) : RepB K aS H' A d v := by
  cases d with
  | lst ds => obtain ⟨a, xs, e, n, q, r⟩ := r; exact ⟨a, xs, e, n, k _ _ q n, r.kp k hs hA⟩
  | dic ds => obtain ⟨a, xs, e, n, q, r⟩ := r; exact ⟨a, xs, e, n, Rd.kp k n q, r.kp k hs hA⟩
  | obj C ds => obtain ⟨a, dx, xs, e, n, q, r⟩ := r; exact ⟨a, dx, xs, e, n, k _ _ q n, r.kp k hs hA⟩
  | non => exact Rep.kp k hs hA (d := .non) r
  | bl b => exact Rep.kp k hs hA (d := .bl b) r
  | int b => exact Rep.kp k hs hA (d := .int b) r
  | str b => exact Rep.kp k hs hA (d := .str b) r
  | raw b => exact Rep.kp k hs hA (d := .raw b) r
  | st => exact Rep.kp k hs hA (d := .st) r
  | tup b => exact Rep.kp k hs hA (d := .tup b) r
/-- a relation that stays behind an expression -/
def Stb (R : RK) : Prop := ∀ (K : PySem.W.Frag) (aS : Addr) (H H' : Hp) (A : AS) (n : Nat) (d : D) (v : V), KpS aS H H' → StA K aS H n → A aS → R K aS H A d v → R K aS H' A d v
theorem stbE : Stb Rep := fun _ _ _ _ _ _ _ _ k hs hA r => r.kp k hs hA
theorem stbB : Stb RepB := fun _ _ _ _ _ _ _ _ k hs hA r => r.kp k hs hA
theorem RL.kp (hR : Stb R) (k : KpS aS H H') (hs : StA K aS H n) (hA : A aS) : ∀ {ds : List D} {vs : List V}, RL R K aS H A ds vs → RL R K aS H' A ds vs
  | [], _, h => h
  | d :: ds, vs, h => by
    obtain ⟨v, vr, e, r, q⟩ := h
    exact ⟨v, vr, e, hR _ _ _ _ _ _ _ _ k hs hA r, RL.kp hR k hs hA q⟩
theorem RL.repL : ∀ {ds : List D} {vs : List V}, RL Rep K aS H A ds vs → RepL K aS H A ds vs
  | [], _, h => by rw [RepL]; exact h
  | d :: ds, vs, h => by
    obtain ⟨v, vr, e, r, q⟩ := h
    rw [RepL]
    exact ⟨v, vr, e, r, RL.repL q⟩
theorem RepL.rl : ∀ {ds : List D} {vs : List V}, RepL K aS H A ds vs → RL Rep K aS H A ds vs
  | [], _, h => by rw [RepL] at h; exact h
  | d :: ds, vs, h => by
    rw [RepL] at h
    obtain ⟨v, vr, e, r, q⟩ := h
    exact ⟨v, vr, e, r, RepL.rl q⟩
theorem RepL.length : ∀ {ds : List D} {vs : List V}, RepL K aS H A ds vs → vs.length = ds.length
  | [], _, h => by rw [RepL] at h; rw [h]; rfl
  | d :: ds, vs, h => by
    rw [RepL] at h
    obtain ⟨v, vr, e, r, q⟩ := h
    rw [e, List.length_cons, List.length_cons, RepL.length q]
theorem RepL.nil : RepL K aS H A [] [] := by rw [RepL]
theorem RepL.cons {d : D} {v : V} {ds : List D} {vs : List V} (r : Rep K aS H A d v) (q : RepL K aS H A ds vs) : RepL K aS H A (d :: ds) (v :: vs) := by rw [RepL]; exact ⟨v, vs, rfl, r, q⟩
theorem RepL.app : ∀ {ds es : List D} {vs ws : List V}, RepL K aS H A ds vs → RepL K aS H A es ws → RepL K aS H A (ds ++ es) (vs ++ ws)
  | [], _, _, _, h, q => by rw [RepL] at h; rw [h]; exact q
  | d :: ds, es, vs, ws, h, q => by
    rw [RepL] at h
    obtain ⟨v, vr, e, r, q'⟩ := h
    rw [e]
    exact RepL.cons r (RepL.app q' q)
theorem RepL.get : ∀ {ds : List D} {vs : List V} {i : Nat} {d : D}, RepL K aS H A ds vs → ds[i]? = some d → ∃ v, vs[i]? = some v ∧ Rep K aS H A d v
  | [], _, _, _, _, e => by simp at e
  | d :: ds, vs, 0, d', h, e => by
    rw [RepL] at h
    obtain ⟨v, vr, e1, r, q⟩ := h
    simp at e
    subst e
    exact ⟨v, by rw [e1]; rfl, r⟩
  | d :: ds, vs, i + 1, d', h, e => by
    rw [RepL] at h
    obtain ⟨v, vr, e1, r, q⟩ := h
    obtain ⟨w, e2, r2⟩ := RepL.get (i := i) q (by simpa using e)
    exact ⟨w, by rw [e1]; simpa using e2, r2⟩
theorem RepL.get' : ∀ {ds : List D} {vs : List V} {i : Nat} {v : V}, RepL K aS H A ds vs → vs[i]? = some v → ∃ d, ds[i]? = some d ∧ Rep K aS H A d v
  | [], _, _, _, h, e => by rw [RepL] at h; rw [h] at e; simp at e
  | d :: ds, vs, 0, d', h, e => by
    rw [RepL] at h
    obtain ⟨v, vr, e1, r, q⟩ := h
    rw [e1] at e
    simp at e
    subst e
    exact ⟨d, rfl, r⟩
  | d :: ds, vs, i + 1, d', h, e => by
    rw [RepL] at h
    obtain ⟨v, vr, e1, r, q⟩ := h
    rw [e1] at e
    obtain ⟨w, e2, r2⟩ := RepL.get' (i := i) q (by simpa using e)
    exact ⟨w, by simpa using e2, r2⟩
theorem RepL.take : ∀ {ds : List D} {vs : List V} (i : Nat), RepL K aS H A ds vs → RepL K aS H A (ds.take i) (vs.take i)
  | [], _, _, h => by rw [RepL] at h; rw [h]; simp; exact RepL.nil
  | d :: ds, vs, 0, h => by simp; exact RepL.nil
  | d :: ds, vs, i + 1, h => by
    rw [RepL] at h
    obtain ⟨v, vr, e1, r, q⟩ := h
    rw [e1, List.take_succ_cons, List.take_succ_cons]
    exact RepL.cons r (RepL.take i q)
theorem RepL.drop : ∀ {ds : List D} {vs : List V} (i : Nat), RepL K aS H A ds vs → RepL K aS H A (ds.drop i) (vs.drop i)
  | [], _, _, h => by rw [RepL] at h; rw [h]; simp; exact RepL.nil
  | d :: ds, vs, 0, h => by simpa using h
  | d :: ds, vs, i + 1, h => by
    rw [RepL] at h
    obtain ⟨v, vr, e1, r, q⟩ := h
    rw [e1, List.drop_succ_cons, List.drop_succ_cons]
    exact RepL.drop i q
theorem sub_le (hle : ∀ a, A' a → A a) : Sub K H H A A' := ⟨fun a xs h q => ⟨fun z => h (hle a z), q⟩, fun a xs q => q, fun a ys h q => ⟨fun z => h (hle a z), q⟩, fun a C dx ys h q => ⟨fun z => h (hle a z), q⟩⟩
/-- a new object at p -/
theorem sub_new {p : Addr} {o : HO} (hp : H p = none) : Sub K H (upd H p o) A (fun b => A b ∨ b = p) := by
  have ne : ∀ b u, H b = some u → b ≠ p := fun b u e => ne_of_none e hp
  have up : ∀ b u, H b = some u → upd H p o b = some u := fun b u e => by rw [upd_ne (ne b u e)]; exact e
  refine ⟨fun a xs h q => ⟨fun z => z.elim h (ne a _ q), up _ _ q⟩, fun a xs q => q.elim (fun q => .inl (up _ _ q)) .inr, fun a ys h q => ?_, fun a C dx ys h q => ⟨fun z => z.elim h (ne a _ q), up _ _ q⟩⟩
  rcases q with q | ⟨u, q⟩
  · exact ⟨fun z => z.elim h (ne a _ q), .inl (up _ _ q)⟩
  · exact ⟨fun z => z.elim h (ne a _ q), .inr ⟨u, up _ _ q⟩⟩
/-- a list just laid -/
theorem own_new {p : Addr} {ds : List D} {xs : List V} (hp : H p = none) (r : RepL K aS H A ds xs) : Own K aS (upd H p (.lst xs)) (fun b => A b ∨ b = p) p (.lst ds) :=
  ⟨xs, upd_same, RepL.mono (sub_new hp) _ _ r⟩
theorem own_newK {p : Addr} {ds : List (Key × D)} {xs : List (Key × V)} (hp : H p = none) (r : RepK K aS H A ds xs) : Own K aS (upd H p (.dK xs)) (fun b => A b ∨ b = p) p (.dic ds) :=
  ⟨xs, upd_same, RepK.mono (sub_new hp) _ _ r⟩
end
/-! ### the readings -/
def eVar (i : Nat) : EM D := fun _ s n Q => ∃ d, s[i]? = some (some d) ∧ Q d n
def eC (d : D) : EM D := fun _ _ n Q => Q d n
def eNil : EM (List D) := fun _ _ n Q => Q [] n
def eCons (m : EM D) (r : EM (List D)) : EM (List D) := fun xq s n Q => m xq s n fun d n1 => r xq s n1 fun ds n2 => Q (d :: ds) n2
def eTup (m : EM (List D)) : EM D := fun xq s n Q => m xq s n fun ds n1 => ds.length ≤ 1000 ∧ Q (.tup ds) n1
def eLst (m : EM (List D)) : EM D := fun xq s n Q => m xq s n fun ds n1 => ds.length ≤ 1000 ∧ Q (.lst ds) n1
section
variable {X : Cx} {E : XK} {O : List Nat} {e : Expr} {es : List Expr} {m : EM D} {ml : EM (List D)} {pos : Pos} {R R' : RK}
theorem VX.imp (h : VX R X E O e m) (hR : ∀ K aS H A d v, A aS → R K aS H A d v → R' K aS H A d v) : VX R' X E O e m := by
  obtain ⟨mn, t, pe, f⟩ := h
  exact ⟨mn, t, pe, fun aS A0 H0 σ H s n xq Q S L hm => f aS A0 H0 σ H s n xq Q S L (mn _ _ _ _ _ (fun d n' q v H' k st r => q v H' k st (hR _ _ _ _ _ _ AV.st r)) hm)⟩
theorem VE.b (h : VE X E O e m) : VB X E O e m := VX.imp h fun _ _ _ _ _ _ hA r => r.b hA
theorem Own.mono {K : PySem.W.Frag} {aS a : Addr} {H : Hp} {A A' : AS} {d : D} (hle : ∀ b, A' b → A b) (h : Own K aS H A a d) : Own K aS H A' a d := by
  cases d with
  | lst ds => obtain ⟨xs, e, q⟩ := h; exact ⟨xs, e, RepL.mono (sub_le hle) _ _ q⟩
  | dic ds => obtain ⟨xs, e, q⟩ := h; exact ⟨xs, e, RepK.mono (sub_le hle) _ _ q⟩
  | obj C ds => obtain ⟨dx, xs, e, q⟩ := h; exact ⟨dx, xs, e, RepF.mono (sub_le hle) _ _ q⟩
  | _ => exact h.elim
theorem Own.rep0 {K : PySem.W.Frag} {aS a : Addr} {H : Hp} {A : AS} {d : D} (h : Own K aS H A a d) (ha : ¬ A a) : Rep K aS H A d (.ref a) := by
  cases d with
  | lst ds => obtain ⟨xs, e, q⟩ := h; rw [Rep]; exact ⟨a, xs, rfl, ha, e, q⟩
  | dic ds => obtain ⟨xs, e, q⟩ := h; rw [Rep]; exact ⟨a, xs, rfl, ha, .inl e, q⟩
  | obj C ds => obtain ⟨dx, xs, e, q⟩ := h; rw [Rep]; exact ⟨a, dx, xs, rfl, ha, e, q⟩
  | _ => exact h.elim
theorem Own.rep {K : PySem.W.Frag} {aS a : Addr} {H : Hp} {A : AS} {d : D} (h : Own K aS H (fun b => A b ∨ b = a) a d) (ha : ¬ A a) : Rep K aS H A d (.ref a) := (h.mono fun _ => .inl).rep0 ha
/-- what is not tracked is not avoided, if what is avoided is tracked -/
theorem VF.ve (h : VF X E O e m) : VE X E O e m := by
  obtain ⟨mn, t, pe, f⟩ := h
  refine ⟨mn, t, pe, fun aS A0 H0 σ H s n xq Q S L hm => f aS A0 H0 σ H s n xq Q S L (mn _ _ _ _ _ (fun d n' q a H' ha k st o => q _ H' k st (o.rep (S.new ha))) hm)⟩
theorem ve_var {i : Nat} {x : Str} (hi : i ∉ O) (hN : X.N[i]? = some x) (hv : Vis X.env.scope x) (hd : (x == ("__debug__" : Str)) = false := by decide) (hcd : (x == ("__classdict__" : Str)) = false := by decide) : VE X E O (.Name x pos) (eVar i) := by
  refine ⟨fun xq s n Q Q' hq ⟨d, e, q⟩ => ⟨d, e, hq _ _ q⟩, _, pe_var hN hv hd hcd, fun aS A0 H0 σ H s n xq Q S L hm => ?_⟩
  obtain ⟨d, e, q⟩ := hm
  obtain ⟨v, ev, r⟩ := S.sh i d e hi
  exact ⟨v, ev, q v H KpS.refl S.st r⟩
theorem vb_var {i : Nat} {x : Str} (hi : i ∈ O) (hN : X.N[i]? = some x) (hv : Vis X.env.scope x) (hd : (x == ("__debug__" : Str)) = false := by decide) (hcd : (x == ("__classdict__" : Str)) = false := by decide) : VB X E O (.Name x pos) (eVar i) := by
  refine ⟨fun xq s n Q Q' hq ⟨d, e, q⟩ => ⟨d, e, hq _ _ q⟩, _, pe_var hN hv hd hcd, fun aS A0 H0 σ H s n xq Q S L hm => ?_⟩
  obtain ⟨d, e, q⟩ := hm
  obtain ⟨d', a, e1, e2, e3, e4, e5, e6⟩ := S.ow i hi
  rw [e] at e1
  cases e1
  refine ⟨_, e2, q _ H KpS.refl S.st ?_⟩
  cases d with
  | lst ds => obtain ⟨xs, e, q⟩ := e6; exact ⟨a, xs, rfl, e5, e, q⟩
  | dic ds => obtain ⟨xs, e, q⟩ := e6; exact ⟨a, xs, rfl, e5, .inl e, q⟩
  | obj C ds => obtain ⟨dx, xs, e, q⟩ := e6; exact ⟨a, dx, xs, rfl, e5, e, q⟩
  | _ => exact e6.elim
end
end DL
namespace DL
open PySem PySem.Spec PyProof.Rows L2
structure Cn (K : PySem.W.Frag) (aS : Addr) (H : Hp) (A : AS) (n : Nat) : Prop where
  a : A aS
  dom : ∀ a, A a → ∃ u, H a = some u
  st : StA K aS H n
theorem SR.cn {K : PySem.W.Frag} {aS : Addr} {H H0 : Hp} {A0 : A0T} {O : List Nat} {σ : L2.St} {s : Ev} {n : Nat} (S : SR K aS O A0 H0 σ H s n) : Cn K aS H (AV aS A0 O σ) n :=
  ⟨AV.st, fun a h => by
    cases e : H a with
    | none => exact (S.new e h).elim
    | some u => exact ⟨u, rfl⟩, S.st⟩
theorem Cn.new {K : PySem.W.Frag} {aS p : Addr} {H : Hp} {A : AS} {n : Nat} (c : Cn K aS H A n) (h : H p = none) : ¬ A p := fun z => by
  obtain ⟨u, e⟩ := c.dom p z
  rw [h] at e; cases e
/-- a binary operation by data -/
def OpD (X : Cx) (g : Value → Value → Sem Value) (f : D → D → Option D) : Prop := ∃ r, OpR X g r ∧ ∀ (aS : Addr) (H : Hp) (A : AS) (n : Nat) (d1 d2 d : D) (v1 v2 : V) (Q : VK), Cn X.K aS H A n → RepB X.K aS H A d1 v1 → RepB X.K aS H A d2 v2 → f d1 d2 = some d →
  (∀ v H', KpS aS H H' → StA X.K aS H' n → Rep X.K aS H' A d v → Q v H') → r v1 v2 H Q
def eBin (f : D → D → Option D) (a b : EM D) : EM D := fun xq s n Q => a xq s n fun x n1 => b xq s n1 fun y n2 => ∃ d, f x y = some d ∧ Q d n2
def eBinT (f : D → D → Option D) (a b : EM D) : EM Bool := fun xq s n Q => a xq s n fun x n1 => b xq s n1 fun y n2 => ∃ k, f x y = some (.bl k) ∧ Q k n2
def eBlt (f : List D → Option D) (a : EM (List D)) : EM D := fun xq s n Q => a xq s n fun x n1 => ∃ d, f x = some d ∧ Q d n1
/-- a call by data -/
def CallD (X : Cx) (g : Value) (f : List D → Option D) : Prop := ∃ r, CallR X g r ∧ ∀ (aS : Addr) (H : Hp) (A : AS) (n : Nat) (ds : List D) (d : D) (vs : List V) (Q : VK), Cn X.K aS H A n → RL RepB X.K aS H A ds vs → f ds = some d →
  (∀ v H', KpS aS H H' → StA X.K aS H' n → Rep X.K aS H' A d v → Q v H') → r vs H Q
def CallF (X : Cx) (g : Value) (f : List D → Option D) : Prop := ∃ r, CallR X g r ∧ ∀ (aS : Addr) (H : Hp) (A : AS) (n : Nat) (ds : List D) (d : D) (vs : List V) (Q : VK), Cn X.K aS H A n → RL RepB X.K aS H A ds vs → f ds = some d →
  (∀ a H', H a = none → KpS aS H H' → StA X.K aS H' n → Own X.K aS H' (fun b => A b ∨ b = a) a d → Q (.ref a) H') → r vs H Q
theorem CallF.d {X : Cx} {g : Value} {f : List D → Option D} (h : CallF X g f) : CallD X g f := by
  obtain ⟨r, hr, q⟩ := h
  exact ⟨r, hr, fun aS H A n ds d vs Q c rl e w => q aS H A n ds d vs Q c rl e fun a H' ha k st o => w _ _ k st (o.rep (c.new ha))⟩
section
variable {X : Cx} {E : XK} {O : List Nat} {a b e : Expr} {es : List Expr} {ma mb m : EM D} {ml : EM (List D)} {pos : Pos} {R R' : RK}
theorem mn_bin {f : D → D → Option D} (h1 : Mn ma) (h2 : Mn mb) : Mn (eBin f ma mb) := fun xq s n Q Q' hq h => h1 _ _ _ _ _ (fun d1 n1 h => h2 _ _ _ _ _ (fun d2 n2 ⟨d, e, q⟩ => ⟨d, e, hq _ _ q⟩) h) h
theorem mn_binT {f : D → D → Option D} (h1 : Mn ma) (h2 : Mn mb) : Mn (eBinT f ma mb) := fun xq s n Q Q' hq h => h1 _ _ _ _ _ (fun d1 n1 h => h2 _ _ _ _ _ (fun d2 n2 ⟨d, e, q⟩ => ⟨d, e, hq _ _ q⟩) h) h
theorem ve_bin {op : Operator} {f : D → D → Option D} (h : OpD X (binaryOp op) f) (ha : VB X E O a ma) (hb : VB X E O b mb) : VE X E O (.BinOp a op b pos) (eBin f ma mb) := by
  obtain ⟨mna, ta, pa, fa⟩ := ha
  obtain ⟨mnb, tb, pb, fb⟩ := hb
  obtain ⟨r, ho, hr⟩ := h
  refine ⟨mn_bin mna mnb, _, pe_op ho pa pb, fun aS A0 H0 σ H s n xq Q S L hm => ?_⟩
  refine fa aS A0 H0 σ H s n xq _ S L (mna _ _ _ _ _ (fun d1 n1 q v1 H1 k1 st1 r1 => ?_) hm)
  refine fb aS A0 H0 σ H1 s n1 xq _ (S.step k1 st1) L (mnb _ _ _ _ _ (fun d2 n2 q2 v2 H2 k2 st2 r2 => ?_) q)
  obtain ⟨d, e, q2⟩ := q2
  exact hr aS H2 _ n2 d1 d2 d v1 v2 Q (S.step (k1.trans k2) st2).cn (r1.kp k2 st1 AV.st) r2 e fun v H' k st r => q2 v H' ((k1.trans k2).trans k) st r
theorem ve_cmp {op : CmpOp} {f : D → D → Option D} (h : OpD X (compareOp op) f) (ha : VB X E O a ma) (hb : VB X E O b mb) (hm : behindInMarks op b = false) : VE X E O (.Compare a [op] [b] pos) (eBin f ma mb) := by
  obtain ⟨mna, ta, pa, fa⟩ := ha
  obtain ⟨mnb, tb, pb, fb⟩ := hb
  obtain ⟨r, ho, hr⟩ := h
  refine ⟨mn_bin mna mnb, _, pe_cmpR ho pa pb hm, fun aS A0 H0 σ H s n xq Q S L hm => ?_⟩
  refine fa aS A0 H0 σ H s n xq _ S L (mna _ _ _ _ _ (fun d1 n1 q v1 H1 k1 st1 r1 => ?_) hm)
  refine fb aS A0 H0 σ H1 s n1 xq _ (S.step k1 st1) L (mnb _ _ _ _ _ (fun d2 n2 q2 v2 H2 k2 st2 r2 => ?_) q)
  obtain ⟨d, e, q2⟩ := q2
  exact hr aS H2 _ n2 d1 d2 d v1 v2 Q (S.step (k1.trans k2) st2).cn (r1.kp k2 st1 AV.st) r2 e fun v H' k st r => q2 v H' ((k1.trans k2).trans k) st r
theorem vt_cmp {op : CmpOp} {f : D → D → Option D} (h : OpD X (compareOp op) f) (ha : VB X E O a ma) (hb : VB X E O b mb) (hm : behindInMarks op b = false) : VT X E O (.Compare a [op] [b] pos) (eBinT f ma mb) := by
  obtain ⟨mna, ta, pa, fa⟩ := ha
  obtain ⟨mnb, tb, pb, fb⟩ := hb
  obtain ⟨r, ho, hr⟩ := h
  refine ⟨mn_binT mna mnb, _, pt_cmpR ho pa pb hm, fun aS A0 H0 σ H s n xq Q S L hm => ?_⟩
  refine fa aS A0 H0 σ H s n xq _ S L (mna _ _ _ _ _ (fun d1 n1 q v1 H1 k1 st1 r1 => ?_) hm)
  refine fb aS A0 H0 σ H1 s n1 xq _ (S.step k1 st1) L (mnb _ _ _ _ _ (fun d2 n2 q2 v2 H2 k2 st2 r2 => ?_) q)
  obtain ⟨c, e, q2⟩ := q2
  refine hr aS H2 _ n2 d1 d2 _ v1 v2 _ (S.step (k1.trans k2) st2).cn (r1.kp k2 st1 AV.st) r2 e fun v H' k st r => ?_
  rw [Rep] at r
  exact ⟨c, r, q2 H' ((k1.trans k2).trans k) st⟩
theorem va_nil : VA R X E O [] eNil := ⟨fun xq s n Q Q' hq h => hq _ _ h, _, pa_nil, fun aS A0 H0 σ H s n xq Q S L hm => hm [] H KpS.refl S.st rfl⟩
theorem mn_cons {m : EM D} {r : EM (List D)} (h1 : Mn m) (h2 : Mn r) : Mn (eCons m r) := fun xq s n Q Q' hq h => h1 _ _ _ _ _ (fun d1 n1 h => h2 _ _ _ _ _ (fun d2 n2 q => hq _ _ q) h) h
theorem va_cons (hR : Stb R) (he : VX R X E O e m) (hr : VA R X E O es ml) (hs : starEach (e :: es) X.env = (false, eval e X.env) :: starEach es X.env := by rfl) : VA R X E O (e :: es) (eCons m ml) := by
  obtain ⟨mna, ta, pa, fa⟩ := he
  obtain ⟨mnb, tb, pb, fb⟩ := hr
  refine ⟨mn_cons mna mnb, _, pa_cons pa pb hs, fun aS A0 H0 σ H s n xq Q S L hm => ?_⟩
  refine fa aS A0 H0 σ H s n xq _ S L (mna _ _ _ _ _ (fun d1 n1 q v1 H1 k1 st1 r1 => ?_) hm)
  refine fb aS A0 H0 σ H1 s n1 xq _ (S.step k1 st1) L (mnb _ _ _ _ _ (fun d2 n2 q2 v2 H2 k2 st2 r2 => ?_) q)
  exact q2 _ H2 (k1.trans k2) st2 ⟨v1, v2, rfl, hR _ _ _ _ _ _ _ _ k2 st1 AV.st r1, r2⟩
theorem mn_blt {f : List D → Option D} (h : Mn ml) : Mn (eBlt f ml) := fun xq s n Q Q' hq w => h _ _ _ _ _ (fun ds n1 ⟨d, e, q⟩ => ⟨d, e, hq _ _ q⟩) w
theorem ve_callB {x : Str} {id : String} {p : Pos} {f : List D → Option D} (h : CallD X (.builtin id) f) (hg : Gl X x) (hm : X.mg x = none) (hv : bootBuiltins x = some (.builtin id)) (ha : VA RepB X E O (e :: es) ml) (hn : x ≠ "__name__" := by decide) (hdb : (x == ("__debug__" : Str)) = false := by decide)
    (hs : starEach (e :: es) X.env = (false, eval e X.env) :: starEach es X.env := by rfl) (hpl : (backTo pos (starEach es X.env)).any (·.1) = false := by rfl) : VE X E O (.Call (.Name x p) (e :: es) [] pos) (eBlt f ml) := by
  obtain ⟨mna, ta, pa, fa⟩ := ha
  obtain ⟨r, ho, hr⟩ := h
  refine ⟨mn_blt mna, _, pe_callB ho hg hm hv pa hn hdb hs hpl, fun aS A0 H0 σ H s n xq Q S L hm => ?_⟩
  refine fa aS A0 H0 σ H s n xq _ S L (mna _ _ _ _ _ (fun ds n1 q vs H1 k1 st1 r1 => ?_) hm)
  obtain ⟨d, e, q⟩ := q
  exact hr aS H1 _ n1 ds d vs Q (S.step k1 st1).cn r1 e fun v H' k st r => q v H' (k1.trans k) st r
theorem ve_callTy {x : Str} {id : String} {p : Pos} {f : List D → Option D} (h : CallD X (.type id) f) (hg : Gl X x) (hm : X.mg x = none) (hv : bootBuiltins x = some (.type id)) (ha : VA RepB X E O (e :: es) ml) (hn : x ≠ "__name__" := by decide) (hdb : (x == ("__debug__" : Str)) = false := by decide)
    (hs : starEach (e :: es) X.env = (false, eval e X.env) :: starEach es X.env := by rfl) (hpl : (backTo pos (starEach es X.env)).any (·.1) = false := by rfl) : VE X E O (.Call (.Name x p) (e :: es) [] pos) (eBlt f ml) := by
  obtain ⟨mna, ta, pa, fa⟩ := ha
  obtain ⟨r, ho, hr⟩ := h
  refine ⟨mn_blt mna, _, pe_callTy ho hg hm hv pa hn hdb hs hpl, fun aS A0 H0 σ H s n xq Q S L hm => ?_⟩
  refine fa aS A0 H0 σ H s n xq _ S L (mna _ _ _ _ _ (fun ds n1 q vs H1 k1 st1 r1 => ?_) hm)
  obtain ⟨d, e, q⟩ := q
  exact hr aS H1 _ n1 ds d vs Q (S.step k1 st1).cn r1 e fun v H' k st r => q v H' (k1.trans k) st r
theorem vf_callTy {x : Str} {id : String} {p : Pos} {f : List D → Option D} (h : CallF X (.type id) f) (hg : Gl X x) (hm : X.mg x = none) (hv : bootBuiltins x = some (.type id)) (ha : VA RepB X E O (e :: es) ml) (hn : x ≠ "__name__" := by decide) (hdb : (x == ("__debug__" : Str)) = false := by decide)
    (hs : starEach (e :: es) X.env = (false, eval e X.env) :: starEach es X.env := by rfl) (hpl : (backTo pos (starEach es X.env)).any (·.1) = false := by rfl) : VF X E O (.Call (.Name x p) (e :: es) [] pos) (eBlt f ml) := by
  obtain ⟨mna, ta, pa, fa⟩ := ha
  obtain ⟨r, ho, hr⟩ := h
  refine ⟨mn_blt mna, _, pe_callTy ho hg hm hv pa hn hdb hs hpl, fun aS A0 H0 σ H s n xq Q S L hm => ?_⟩
  refine fa aS A0 H0 σ H s n xq _ S L (mna _ _ _ _ _ (fun ds n1 q vs H1 k1 st1 r1 => ?_) hm)
  obtain ⟨d, e, q⟩ := q
  refine hr aS H1 _ n1 ds d vs Q (S.step k1 st1).cn r1 e fun a H' ha k st o => q a H' ?_ (k1.trans k) st o
  cases z : H a with
  | none => rfl
  | some u =>
    by_cases hz : a = aS
    · obtain ⟨xs, y⟩ := st1.lst
      rw [hz, y] at ha; cases ha
    · rw [k1 _ _ z hz] at ha; cases ha
/-! displays, constants -/
theorem ve_tup {x1} (h : VA Rep X E O es ml) : VE X E O (.Tuple es x1 pos) (eTup ml) := by
  obtain ⟨mn, t, pa, f⟩ := h
  refine ⟨fun xq s n Q Q' hq h => mn _ _ _ _ _ (fun _ _ ⟨z, q⟩ => ⟨z, hq _ _ q⟩) h, _, pe_tup pa, fun aS A0 H0 σ H s n xq Q S L hm => ?_⟩
  refine f aS A0 H0 σ H s n xq _ S L (mn _ _ _ _ _ (fun ds n1 q vs H1 k1 st1 r1 => ?_) hm)
  have hl := (RL.repL r1).length
  refine ⟨by rw [hl, sizeLine_eq]; omega, fun p hp => q.2 _ _ (k1.trans (KpS.upd hp)) (st1.upd hp) ?_⟩
  rw [Rep]
  exact ⟨p, vs, rfl, .inl upd_same, (RL.repL r1).kp (KpS.upd hp) st1 AV.st⟩
theorem vf_lst (h : VA Rep X E O es ml) : VF X E O (.List es pos) (eLst ml) := by
  obtain ⟨mn, t, pa, f⟩ := h
  refine ⟨fun xq s n Q Q' hq h => mn _ _ _ _ _ (fun _ _ ⟨z, q⟩ => ⟨z, hq _ _ q⟩) h, _, pe_lst pa, fun aS A0 H0 σ H s n xq Q S L hm => ?_⟩
  refine f aS A0 H0 σ H s n xq _ S L (mn _ _ _ _ _ (fun ds n1 q vs H1 k1 st1 r1 => ?_) hm)
  have hl := (RL.repL r1).length
  refine ⟨by rw [hl, sizeLine_eq]; omega, fun p hp => q.2 _ _ ?_ (k1.trans (KpS.upd hp)) (st1.upd hp) (own_new hp (RL.repL r1))⟩
  cases z : H p with
  | none => rfl
  | some u =>
    by_cases hz : p = aS
    · obtain ⟨xs, y⟩ := st1.lst
      rw [hz, y] at hp; cases hp
    · rw [k1 _ _ z hz] at hp; cases hp
theorem mn_c {d : D} : Mn (eC d) := fun _ _ _ _ _ hq h => hq _ _ h
theorem ve_int {i j pos} : VE X E O (.Constant (.int i) j pos) (eC (.int i)) := ⟨mn_c, _, pe_int, fun aS A0 H0 σ H s n xq Q S L hm => hm _ H KpS.refl S.st (by rw [Rep])⟩
theorem ve_bl {b j pos} : VE X E O (.Constant (.bool b) j pos) (eC (.bl b)) := ⟨mn_c, _, pe_bl, fun aS A0 H0 σ H s n xq Q S L hm => hm _ H KpS.refl S.st (by rw [Rep])⟩
theorem ve_non {j pos} : VE X E O (.Constant .none j pos) (eC .non) := ⟨mn_c, _, pe_non, fun aS A0 H0 σ H s n xq Q S L hm => hm _ H KpS.refl S.st (by rw [Rep])⟩
theorem ve_str {x j pos} : VE X E O (.Constant (.str x) j pos) (eC (.str x)) := ⟨mn_c, _, pe_str, fun aS A0 H0 σ H s n xq Q S L hm => hm _ H KpS.refl S.st (by rw [Rep])⟩
/-- a module's text or int -/
theorem ve_gstr {x z : Str} (hg : Gl X x) (hm : ∃ t, X.mg x = some (.str z t)) (hd : (x == ("__debug__" : Str)) = false := by decide) : VE X E O (.Name x pos) (eC (.str z)) := by
  obtain ⟨t, hm⟩ := hm
  exact ⟨mn_c, _, pe_glob (v := .str z) hg hm ⟨t, rfl⟩ hd, fun aS A0 H0 σ H s n xq Q S L hm => hm _ H KpS.refl S.st (by rw [Rep])⟩
theorem ve_gint {x : Str} {i : Int} (hg : Gl X x) (hm : ∃ t, X.mg x = some (.int i t)) (hd : (x == ("__debug__" : Str)) = false := by decide) : VE X E O (.Name x pos) (eC (.int i)) := by
  obtain ⟨t, hm⟩ := hm
  exact ⟨mn_c, _, pe_glob (v := .int i) hg hm ⟨t, rfl⟩ hd, fun aS A0 H0 σ H s n xq Q S L hm => hm _ H KpS.refl S.st (by rw [Rep])⟩
/-- a built-in class, a class of the program's as a value -/
theorem ve_bty {x : Str} {T : String} (hg : Gl X x) (hm : X.mg x = none) (hv : bootBuiltins x = some (.type T)) (hn : x ≠ "__name__" := by decide) (hd : (x == ("__debug__" : Str)) = false := by decide) : VE X E O (.Name x pos) (eC (.raw (.ty T))) :=
  ⟨mn_c, _, pe_bltn (v := .ty T) hg hm hv rfl hn hd, fun aS A0 H0 σ H s n xq Q S L hm => hm _ H KpS.refl S.st (by rw [Rep])⟩
theorem ve_gref {x : Str} {a : Addr} (hg : Gl X x) (hm : X.mg x = some (.ref a)) (hd : (x == ("__debug__" : Str)) = false := by decide) : VE X E O (.Name x pos) (eC (.raw (.ref a))) :=
  ⟨mn_c, _, pe_glob (v := .ref a) hg hm rfl hd, fun aS A0 H0 σ H s n xq Q S L hm => hm _ H KpS.refl S.st (by rw [Rep])⟩
/-! and, or, not, if -/
def eAnd (a b : EM D) : EM D := fun xq s n Q => a xq s n fun x n1 => ∃ c, x = .bl c ∧ if c = true then b xq s n1 Q else Q (.bl false) n1
def eOr (a b : EM D) : EM D := fun xq s n Q => a xq s n fun x n1 => ∃ c, x = .bl c ∧ if c = true then Q (.bl true) n1 else b xq s n1 Q
def eNot (a : EM D) : EM D := fun xq s n Q => a xq s n fun x n1 => ∃ c, x = .bl c ∧ Q (.bl (!c)) n1
def eIf (t : EM Bool) (a b : EM D) : EM D := fun xq s n Q => t xq s n fun c n1 => if c = true then a xq s n1 Q else b xq s n1 Q
def tVal (a : EM D) : EM Bool := fun xq s n Q => a xq s n fun x n1 => ∃ c, x = .bl c ∧ Q c n1
def tAndD (a b : EM Bool) : EM Bool := fun xq s n Q => a xq s n fun c n1 => if c = true then b xq s n1 Q else Q false n1
def tOrD (a b : EM Bool) : EM Bool := fun xq s n Q => a xq s n fun c n1 => if c = true then Q true n1 else b xq s n1 Q
def tNotD (a : EM Bool) : EM Bool := fun xq s n Q => a xq s n fun c n1 => Q (!c) n1
/-- a chain of tests (and, or) -/
def VW (X : Cx) (E : XK) (O : List Nat) (e : Expr) (m : EM Bool) : Prop := Mn m ∧ ∃ t, PW X e t ∧ ∀ (aS : Addr) (A0 : A0T) (H0 : Hp) (σ : L2.St) (H : Hp) (s : Ev) (n : Nat) (xq : XQ) (Q : Bool → Hp → Prop), SR X.K aS O A0 H0 σ H s n → LX X.K E aS A0 H0 xq →
  m xq s n (fun b n' => ∀ H', KpS aS H H' → StA X.K aS H' n' → Q b H') → t σ H Q
variable {tA tB : EM Bool} {rest : List Expr}
theorem VW.t (h : VW X E O e tA) : VT X E O e tA := by
  obtain ⟨mn, t, pw, f⟩ := h
  exact ⟨mn, t, pw.pt, f⟩
theorem vw_and1 (ha : VT X E O a tA) : VW X E O (.BoolOp .And [a] pos) tA := by
  obtain ⟨mn, t, p, f⟩ := ha
  exact ⟨mn, t, pw_and1 p, f⟩
theorem vw_or1 (ha : VT X E O a tA) : VW X E O (.BoolOp .Or [a] pos) tA := by
  obtain ⟨mn, t, p, f⟩ := ha
  exact ⟨mn, t, pw_or1 p, f⟩
theorem vw_and (ha : VT X E O a tA) (hb : VW X E O (.BoolOp .And (b :: rest) pos) tB) : VW X E O (.BoolOp .And (a :: b :: rest) pos) (tAndD tA tB) := by
  obtain ⟨mna, ta, pa, fa⟩ := ha
  obtain ⟨mnb, tb, pb, fb⟩ := hb
  refine ⟨fun xq s n Q Q' hq h => mna _ _ _ _ _ (fun c n1 h => ?_) h, _, pw_and pa pb, fun aS A0 H0 σ H s n xq Q S L hm => ?_⟩
  · cases c with
    | true => exact mnb _ _ _ _ _ hq h
    | false => exact hq _ _ h
  · refine fa aS A0 H0 σ H s n xq _ S L (mna _ _ _ _ _ (fun c n1 q H1 k1 st1 => ?_) hm)
    cases c with
    | true => exact fb aS A0 H0 σ H1 s n1 xq _ (S.step k1 st1) L (mnb _ _ _ _ _ (fun c2 n2 q2 H2 k2 st2 => q2 H2 (k1.trans k2) st2) q)
    | false => exact q H1 k1 st1
theorem vw_or (ha : VT X E O a tA) (hb : VW X E O (.BoolOp .Or (b :: rest) pos) tB) : VW X E O (.BoolOp .Or (a :: b :: rest) pos) (tOrD tA tB) := by
  obtain ⟨mna, ta, pa, fa⟩ := ha
  obtain ⟨mnb, tb, pb, fb⟩ := hb
  refine ⟨fun xq s n Q Q' hq h => mna _ _ _ _ _ (fun c n1 h => ?_) h, _, pw_or pa pb, fun aS A0 H0 σ H s n xq Q S L hm => ?_⟩
  · cases c with
    | false => exact mnb _ _ _ _ _ hq h
    | true => exact hq _ _ h
  · refine fa aS A0 H0 σ H s n xq _ S L (mna _ _ _ _ _ (fun c n1 q H1 k1 st1 => ?_) hm)
    cases c with
    | false => exact fb aS A0 H0 σ H1 s n1 xq _ (S.step k1 st1) L (mnb _ _ _ _ _ (fun c2 n2 q2 H2 k2 st2 => q2 H2 (k1.trans k2) st2) q)
    | true => exact q H1 k1 st1
theorem vt_not (ha : VT X E O a tA) : VT X E O (.UnaryOp .Not a pos) (tNotD tA) := by
  obtain ⟨mn, t, p, f⟩ := ha
  exact ⟨fun xq s n Q Q' hq h => mn _ _ _ _ _ (fun c n1 h => hq _ _ h) h, _, pt_not p, fun aS A0 H0 σ H s n xq Q S L hm => f aS A0 H0 σ H s n xq _ S L hm⟩
theorem vt_val (h : VE X E O e m) (he : ∀ whole, isTrue e X.env whole = (do let v ← whole; standAt e.pos; holding [v] (truthy v)) := by intro _; rfl) : VT X E O e (tVal m) := by
  obtain ⟨mn, t, p, f⟩ := h
  refine ⟨fun xq s n Q Q' hq h => mn _ _ _ _ _ (fun _ _ ⟨c, e, q⟩ => ⟨c, e, hq _ _ q⟩) h, _, pt_val p he, fun aS A0 H0 σ H s n xq Q S L hm => ?_⟩
  refine f aS A0 H0 σ H s n xq _ S L (mn _ _ _ _ _ (fun d n1 q v H1 k1 st1 r1 => ?_) hm)
  obtain ⟨c, e, q⟩ := q
  subst e
  rw [Rep] at r1
  exact ⟨c, r1, q H1 k1 st1⟩
theorem ve_one {op} (h : VE X E O a m) : VE X E O (.BoolOp op [a] pos) m := by
  obtain ⟨mn, t, p, f⟩ := h
  exact ⟨mn, t, pe_one p, f⟩
theorem ve_and (ha : VE X E O a ma) (hb : VE X E O (.BoolOp .And (b :: rest) pos) mb) : VE X E O (.BoolOp .And (a :: b :: rest) pos) (eAnd ma mb) := by
  obtain ⟨mna, ta, pa, fa⟩ := ha
  obtain ⟨mnb, tb, pb, fb⟩ := hb
  refine ⟨fun xq s n Q Q' hq h => mna _ _ _ _ _ (fun d n1 h => by
    obtain ⟨c, e, h⟩ := h
    refine ⟨c, e, ?_⟩
    cases c with
    | true => exact mnb _ _ _ _ _ hq h
    | false => exact hq _ _ h) h, _, pe_and pa pb, fun aS A0 H0 σ H s n xq Q S L hm => ?_⟩
  refine fa aS A0 H0 σ H s n xq _ S L (mna _ _ _ _ _ (fun d n1 q v H1 k1 st1 r1 => ?_) hm)
  obtain ⟨c, e, q⟩ := q
  subst e
  rw [Rep] at r1
  refine ⟨c, r1, ?_⟩
  cases c with
  | true => exact fb aS A0 H0 σ H1 s n1 xq _ (S.step k1 st1) L (mnb _ _ _ _ _ (fun d2 n2 q2 v2 H2 k2 st2 r2 => q2 v2 H2 (k1.trans k2) st2 r2) q)
  | false => exact q _ H1 k1 st1 (by rw [Rep])
theorem ve_or (ha : VE X E O a ma) (hb : VE X E O (.BoolOp .Or (b :: rest) pos) mb) : VE X E O (.BoolOp .Or (a :: b :: rest) pos) (eOr ma mb) := by
  obtain ⟨mna, ta, pa, fa⟩ := ha
  obtain ⟨mnb, tb, pb, fb⟩ := hb
  refine ⟨fun xq s n Q Q' hq h => mna _ _ _ _ _ (fun d n1 h => by
    obtain ⟨c, e, h⟩ := h
    refine ⟨c, e, ?_⟩
    cases c with
    | false => exact mnb _ _ _ _ _ hq h
    | true => exact hq _ _ h) h, _, pe_or pa pb, fun aS A0 H0 σ H s n xq Q S L hm => ?_⟩
  refine fa aS A0 H0 σ H s n xq _ S L (mna _ _ _ _ _ (fun d n1 q v H1 k1 st1 r1 => ?_) hm)
  obtain ⟨c, e, q⟩ := q
  subst e
  rw [Rep] at r1
  refine ⟨c, r1, ?_⟩
  cases c with
  | false => exact fb aS A0 H0 σ H1 s n1 xq _ (S.step k1 st1) L (mnb _ _ _ _ _ (fun d2 n2 q2 v2 H2 k2 st2 r2 => q2 v2 H2 (k1.trans k2) st2 r2) q)
  | true => exact q _ H1 k1 st1 (by rw [Rep])
theorem ve_not (ha : VE X E O a ma) : VE X E O (.UnaryOp .Not a pos) (eNot ma) := by
  obtain ⟨mn, t, p, f⟩ := ha
  refine ⟨fun xq s n Q Q' hq h => mn _ _ _ _ _ (fun d n1 ⟨c, e, h⟩ => ⟨c, e, hq _ _ h⟩) h, _, pe_not p, fun aS A0 H0 σ H s n xq Q S L hm => ?_⟩
  refine f aS A0 H0 σ H s n xq _ S L (mn _ _ _ _ _ (fun d n1 ⟨c, e, q⟩ v H1 k1 st1 r1 => ?_) hm)
  subst e
  rw [Rep] at r1
  exact ⟨c, r1, q _ H1 k1 st1 (by rw [Rep])⟩
theorem ve_ifExp {c : Expr} (hc : VT X E O c tA) (ha : VE X E O a ma) (hb : VE X E O b mb) : VE X E O (.IfExp c a b pos) (eIf tA ma mb) := by
  obtain ⟨mnc, tc, pc, fc⟩ := hc
  obtain ⟨mna, ta, pa, fa⟩ := ha
  obtain ⟨mnb, tb, pb, fb⟩ := hb
  refine ⟨fun xq s n Q Q' hq h => mnc _ _ _ _ _ (fun c n1 h => ?_) h, _, pe_ifExp pc pa pb, fun aS A0 H0 σ H s n xq Q S L hm => ?_⟩
  · cases c with
    | true => exact mna _ _ _ _ _ hq h
    | false => exact mnb _ _ _ _ _ hq h
  · refine fc aS A0 H0 σ H s n xq _ S L (mnc _ _ _ _ _ (fun c n1 q H1 k1 st1 => ?_) hm)
    cases c with
    | true => exact fa aS A0 H0 σ H1 s n1 xq _ (S.step k1 st1) L (mna _ _ _ _ _ (fun c2 n2 q2 v2 H2 k2 st2 r2 => q2 v2 H2 (k1.trans k2) st2 r2) q)
    | false => exact fb aS A0 H0 σ H1 s n1 xq _ (S.step k1 st1) L (mnb _ _ _ _ _ (fun c2 n2 q2 v2 H2 k2 st2 r2 => q2 v2 H2 (k1.trans k2) st2 r2) q)
end
end DL
namespace DL
open PySem PySem.Spec PyProof.Rows L2
/-! ### sums -/
def LIM : Nat := 100000
def dAdd : D → D → Option D
  | .int i, .int j => some (.int (i + j))
  | .lst xs, .lst ys => if xs.length + ys.length ≤ LIM then some (.lst (xs ++ ys)) else none
  | .tup xs, .tup ys => if xs.length + ys.length ≤ LIM then some (.tup (xs ++ ys)) else none
  | .str x, .str y => if x.length + y.length ≤ LIM then some (.str (x ++ y)) else none
  | _, _ => none
section
variable {K : PySem.W.Frag} {aS : Addr} {H : Hp} {A : AS} {n : Nat} {d : D} {v : V}
theorem repB_int {i : Int} (h : RepB K aS H A (.int i) v) : v = .int i := by
  unfold RepB at h
  simp only [Rep] at h
  exact h
theorem repB_str {i : Str} (h : RepB K aS H A (.str i) v) : v = .str i := by
  unfold RepB at h
  simp only [Rep] at h
  exact h
theorem repB_bl {i : Bool} (h : RepB K aS H A (.bl i) v) : v = .bl i := by
  unfold RepB at h
  simp only [Rep] at h
  exact h
theorem repB_non (h : RepB K aS H A .non v) : v = .non := by
  unfold RepB at h
  simp only [Rep] at h
  exact h
theorem repB_raw {u : V} (h : RepB K aS H A (.raw u) v) : v = u := by
  unfold RepB at h
  simp only [Rep] at h
  exact h
theorem repB_tup {ds : List D} (h : RepB K aS H A (.tup ds) v) : ∃ a xs, v = .ref a ∧ TpA K H a xs ∧ RepL K aS H A ds xs := by
  unfold RepB at h
  simp only [Rep] at h
  exact h
theorem repB_lst {ds : List D} (h : RepB K aS H A (.lst ds) v) : ∃ a xs, v = .ref a ∧ a ≠ aS ∧ H a = some (.lst xs) ∧ RepL K aS H A ds xs := h
theorem repB_dic {ds : List (Key × D)} (h : RepB K aS H A (.dic ds) v) : ∃ a ys, v = .ref a ∧ a ≠ aS ∧ Rd H a (.dK ys) ∧ RepK K aS H A ds ys := h
theorem rep_int {i : Int} : Rep K aS H A (.int i) (.int i) := by rw [Rep]
theorem rep_str {i : Str} : Rep K aS H A (.str i) (.str i) := by rw [Rep]
theorem rep_bl {i : Bool} : Rep K aS H A (.bl i) (.bl i) := by rw [Rep]
theorem rep_non : Rep K aS H A .non .non := by rw [Rep]
theorem rep_tup {ds : List D} {a : Addr} {xs : List V} (h : TpA K H a xs) (r : RepL K aS H A ds xs) : Rep K aS H A (.tup ds) (.ref a) := by rw [Rep]; exact ⟨a, xs, rfl, h, r⟩
theorem lim_line {k : Nat} (h : k ≤ LIM) : k ≤ sizeLine := by unfold LIM at h; rw [sizeLine_eq]; omega
theorem RepL.kpu {ds : List D} {xs : List V} {p : Addr} {o : HO} (c : Cn K aS H A n) (hp : H p = none) (r : RepL K aS H A ds xs) : RepL K aS (upd H p o) A ds xs := r.kp (KpS.upd hp) c.st c.a
end
section
variable {X : Cx}
theorem od_add : OpD X (binaryOp .Add) dAdd := by
  refine ⟨_, OpR.or op_add (OpR.or op_cat (OpR.or op_catA op_add_str)), fun aS H A n d1 d2 d v1 v2 Q c r1 r2 e w => ?_⟩
  unfold dAdd at e
  split at e
  · cases e
    exact .inl ⟨_, _, repB_int r1, repB_int r2, w _ _ KpS.refl c.st rep_int⟩
  · split at e
    · rename_i xs ys hl
      cases e
      obtain ⟨a, us, e1, n1, h1, q1⟩ := repB_lst r1
      obtain ⟨b, ws, e2, n2, h2, q2⟩ := repB_lst r2
      refine .inr (.inl ⟨a, b, us, ws, e1, e2, h1, h2, by rw [q1.length, q2.length]; exact lim_line hl, fun p hp => w _ _ (KpS.upd hp) (c.st.upd hp) ((own_new hp (q1.app q2)).rep (c.new hp))⟩)
    · cases e
  · split at e
    · rename_i xs ys hl
      cases e
      obtain ⟨a, us, e1, h1, q1⟩ := repB_tup r1
      obtain ⟨b, ws, e2, h2, q2⟩ := repB_tup r2
      refine .inr (.inr (.inl ⟨a, b, us, ws, e1, e2, h1.sq, h2.sq, by rw [q1.length, q2.length]; exact lim_line hl, fun z => ?_, fun _ z => ?_, fun _ _ p hp => w _ _ (KpS.upd hp) (c.st.upd hp) (rep_tup (.inl upd_same) ((q1.app q2).kpu c hp))⟩))
      · have ez : xs = [] := List.length_eq_zero_iff.mp (by rw [← q1.length, z]; rfl)
        subst ez
        exact w _ _ KpS.refl c.st (rep_tup h2 q2)
      · have ez : ys = [] := List.length_eq_zero_iff.mp (by rw [← q2.length, z]; rfl)
        subst ez
        rw [List.append_nil] at w
        exact w _ _ KpS.refl c.st (rep_tup h1 q1)
    · cases e
  · split at e
    · rename_i xs ys hl
      cases e
      exact .inr (.inr (.inr ⟨_, _, repB_str r1, repB_str r2, lim_line hl, w _ _ KpS.refl c.st rep_str⟩))
    · cases e
  · cases e
/-- an operation of ints -/
def dInt (C : Int → Int → Bool) (g : Int → Int → Int) : D → D → Option D
  | .int i, .int j => if C i j = true then some (.int (g i j)) else none
  | _, _ => none
theorem od_int {op : Operator} {C : Int → Int → Prop} {C' : Int → Int → Bool} {g : Int → Int → Int} (h : OpR X (binaryOp op) (rI C fun i j => .int (g i j))) (hC : ∀ i j, C' i j = true → C i j) : OpD X (binaryOp op) (dInt C' g) := by
  refine ⟨_, h, fun aS H A n d1 d2 d v1 v2 Q c r1 r2 e w => ?_⟩
  unfold dInt at e
  split at e
  · split at e
    · rename_i hc
      cases e
      exact ⟨_, _, repB_int r1, repB_int r2, hC _ _ hc, w _ _ KpS.refl c.st rep_int⟩
    · cases e
  · cases e
def dSub : D → D → Option D := dInt (fun _ _ => true) (fun i j => i - j)
theorem od_sub : OpD X (binaryOp .Sub) dSub := by
  refine ⟨_, op_sub, fun aS H A n d1 d2 d v1 v2 Q c r1 r2 e w => ?_⟩
  unfold dSub dInt at e
  split at e
  · rw [if_pos rfl] at e
    cases e
    exact ⟨_, _, repB_int r1, repB_int r2, w _ _ KpS.refl c.st rep_int⟩
  · cases e
def dMul : D → D → Option D := dInt (fun i j => decide (-(2 ^ 64) < i ∧ i < 2 ^ 64) || decide (-(2 ^ 64) < j ∧ j < 2 ^ 64)) (fun i j => i * j)
theorem od_mul : OpD X (binaryOp .Mult) dMul := od_int op_mul fun i j h => by
  simp only [Bool.or_eq_true, decide_eq_true_eq] at h
  exact h
def dMod : D → D → Option D := dInt (fun _ j => decide (0 < j)) (fun i j => i % j)
theorem od_mod : OpD X (binaryOp .Mod) dMod := od_int op_mod fun i j h => of_decide_eq_true h
def dFdiv : D → D → Option D := dInt (fun _ j => decide (0 < j ∧ j < 2 ^ 64)) (fun i j => i / j)
theorem od_fdiv : OpD X (binaryOp .FloorDiv) dFdiv := od_int op_fdivW fun i j h => by
  have h := of_decide_eq_true h
  exact wide_div (b := 64) h.1 (by omega) (by decide) (by decide)
def dPow : D → D → Option D := dInt (fun i j => decide (0 ≤ j ∧ j ≤ 1000000 ∧ i.natAbs < 2 ^ 64)) (fun i j => i ^ j.toNat)
theorem od_pow : OpD X (binaryOp .Pow) dPow := od_int op_pow fun i j h => (show 0 ≤ j ∧ j ≤ 1000000 ∧ i.natAbs < 2 ^ 64 from of_decide_eq_true h)
/-! ### comparisons -/
def dCmp (f : Int → Int → Bool) (g : List Nat → List Nat → Bool) : D → D → Option D
  | .int i, .int j => some (.bl (f i j))
  | .str i, .str j => some (.bl (g i.cps.toList j.cps.toList))
  | _, _ => none
theorem od_cmp {op : CmpOp} {f : Int → Int → Bool} {g : List Nat → List Nat → Bool} (h1 : OpR X (compareOp op) (rI0 fun i j => .bl (f i j))) (h2 : OpR X (compareOp op) (fun x y H Q => ∃ i j, x = .str i ∧ y = .str j ∧ Q (.bl (g i.cps.toList j.cps.toList)) H)) : OpD X (compareOp op) (dCmp f g) := by
  refine ⟨_, OpR.or h1 h2, fun aS H A n d1 d2 d v1 v2 Q c r1 r2 e w => ?_⟩
  unfold dCmp at e
  split at e
  · cases e
    exact .inl ⟨_, _, repB_int r1, repB_int r2, w _ _ KpS.refl c.st rep_bl⟩
  · cases e
    exact .inr ⟨_, _, repB_str r1, repB_str r2, w _ _ KpS.refl c.st rep_bl⟩
  · cases e
def dLt : D → D → Option D := dCmp (fun i j => decide (i < j)) (fun x y => decide (x < y))
def dLe : D → D → Option D := dCmp (fun i j => decide (i ≤ j)) (fun x y => !decide (y < x))
def dGt : D → D → Option D := dCmp (fun i j => decide (j < i)) (fun x y => decide (y < x))
def dGe : D → D → Option D := dCmp (fun i j => decide (j ≤ i)) (fun x y => !decide (x < y))
theorem od_lt : OpD X (compareOp .Lt) dLt := od_cmp op_lt op_lt_str
theorem od_le : OpD X (compareOp .LtE) dLe := od_cmp op_le op_le_str
theorem od_gt : OpD X (compareOp .Gt) dGt := od_cmp op_gt op_gt_str
theorem od_ge : OpD X (compareOp .GtE) dGe := od_cmp op_ge op_ge_str
end
/-! ### == by data -/
mutual
def toPD : D → PyData
  | .non => .none
  | .bl b => .bool b
  | .int i => .int i
  | .str x => .str x
  | .lst xs => .list (toPDs xs)
  | .tup xs => .tuple (toPDs xs)
  | _ => .dict []
def toPDs : List D → List PyData
  | [] => []
  | d :: ds => toPD d :: toPDs ds
end
section
variable {K : PySem.W.Frag} {aS : Addr} {H : Hp} {A : AS}
mutual
theorem Rep.dp : ∀ (d : D) (v : V), (toPD d).canLay0 = true → Rep K aS H A d v → Dp K H v (toPD d)
  | .non, v, _, h => by
    simp only [Rep] at h
    subst h
    exact Dp.non
  | .bl b, v, _, h => by
    simp only [Rep] at h
    subst h
    exact Dp.bl b
  | .int i, v, _, h => by
    simp only [Rep] at h
    subst h
    exact Dp.int i
  | .str i, v, _, h => by
    simp only [Rep] at h
    subst h
    exact Dp.str i
  | .lst ds, v, c, h => by
    rw [Rep] at h
    obtain ⟨a, xs, e, n, q, r⟩ := h
    subst e
    rw [toPD] at c ⊢
    exact Dp.lst (SqL.of q) (RepL.dp ds xs (by simpa [PyData.canLay0] using c) r)
  | .tup ds, v, c, h => by
    rw [Rep] at h
    obtain ⟨a, xs, e, q, r⟩ := h
    subst e
    rw [toPD] at c ⊢
    exact Dp.tup q.sq (RepL.dp ds xs (by simpa [PyData.canLay0] using c) r)
  | .raw u, v, c, h => by simp [toPD, PyData.canLay0] at c
  | .st, v, c, h => by simp [toPD, PyData.canLay0] at c
  | .dic u, v, c, h => by simp [toPD, PyData.canLay0] at c
  | .obj C u, v, c, h => by simp [toPD, PyData.canLay0] at c
theorem RepL.dp : ∀ (ds : List D) (vs : List V), PyData.canLayAll0 (toPDs ds) = true → RepL K aS H A ds vs → DpAll K H vs (toPDs ds)
  | [], vs, _, h => by
    rw [RepL] at h
    subst h
    exact DpAll.nil
  | d :: ds, vs, c, h => by
    rw [RepL] at h
    obtain ⟨v, vr, e, r, q⟩ := h
    subst e
    have c' : (toPD d).canLay0 = true ∧ PyData.canLayAll0 (toPDs ds) = true := by simpa [toPDs, PyData.canLayAll0] using c
    rw [toPDs]
    exact DpAll.cons (Rep.dp d v c'.1 r) (RepL.dp ds vr c'.2 q)
end
theorem RepB.dp {d : D} {v : V} (c : (toPD d).canLay0 = true) (h : RepB K aS H A d v) : Dp K H v (toPD d) := by
  cases d with
  | lst ds =>
    obtain ⟨a, xs, e, n, q, r⟩ := h
    subst e
    rw [toPD] at c ⊢
    exact Dp.lst (SqL.of q) (RepL.dp ds xs (by simpa [PyData.canLay0] using c) r)
  | dic ds => simp [toPD, PyData.canLay0] at c
  | obj C ds => simp [toPD, PyData.canLay0] at c
  | non => exact Rep.dp (aS := aS) (A := A) .non _ c h
  | bl b => exact Rep.dp (aS := aS) (A := A) (.bl b) _ c h
  | int b => exact Rep.dp (aS := aS) (A := A) (.int b) _ c h
  | str b => exact Rep.dp (aS := aS) (A := A) (.str b) _ c h
  | raw b => exact Rep.dp (aS := aS) (A := A) (.raw b) _ c h
  | st => exact Rep.dp (aS := aS) (A := A) .st _ c h
  | tup b => exact Rep.dp (aS := aS) (A := A) (.tup b) _ c h
end
def okD (d : D) : Bool := SeqAt.shaped (toPD d)
theorem okD_lay {d : D} (h : okD d = true) : (toPD d).canLay0 = true := by
  unfold okD SeqAt.shaped at h
  exact (Bool.and_eq_true_iff.mp h).1
def pyEq (a b : D) : Bool := (toPD a).eqv (toPD b)
def dEq (a b : D) : Option D := if (okD a && okD b) = true then some (.bl (pyEq a b)) else none
def dNe (a b : D) : Option D := if (okD a && okD b) = true then some (.bl (!pyEq a b)) else none
section
variable {X : Cx}
theorem od_eq (hu : X.A.units + 64 < cLine) : OpD X (compareOp .Eq) dEq := by
  refine ⟨_, op_eqD hu, fun aS H A n d1 d2 d v1 v2 Q c r1 r2 e w => ?_⟩
  unfold dEq at e
  split at e
  · rename_i h
    cases e
    obtain ⟨h1, h2⟩ := Bool.and_eq_true_iff.mp h
    exact ⟨_, _, r1.dp (okD_lay h1), r2.dp (okD_lay h2), h1, h2, w _ _ KpS.refl c.st rep_bl⟩
  · cases e
theorem od_ne (hu : X.A.units + 64 < cLine) : OpD X (compareOp .NotEq) dNe := by
  refine ⟨_, op_neD hu, fun aS H A n d1 d2 d v1 v2 Q c r1 r2 e w => ?_⟩
  unfold dNe at e
  split at e
  · rename_i h
    cases e
    obtain ⟨h1, h2⟩ := Bool.and_eq_true_iff.mp h
    exact ⟨_, _, r1.dp (okD_lay h1), r2.dp (okD_lay h2), h1, h2, w _ _ KpS.refl c.st rep_bl⟩
  · cases e
end
/-! ### in -/
def flatD : D → Bool
  | .non => true
  | .bl _ => true
  | .int _ => true
  | .str _ => true
  | _ => false
def keyD : D → Option Key
  | .int i => some (.inl i)
  | .str x => some (.inr x)
  | _ => none
def lookK (kvs : List (Key × D)) (k : Key) : Option D := (kvs.find? fun kv => decide (kv.1 = k)).map (·.2)
def dInB : D → D → Option Bool
  | x, .lst ys => if (okD x && okD (.lst ys)) = true then some (ys.any fun y => pyEq y x) else none
  | x, .tup ys => if (flatD x && ys.all flatD) = true then some (ys.any fun y => pyEq y x) else none
  | x, .dic kvs => (keyD x).map fun k => (lookK kvs k).isSome
  | .str c, .str z => match c.cps.toList with
    | [k] => some (decide (k ∈ z.cps.toList))
    | _ => none
  | _, _ => none
def dIn (x y : D) : Option D := (dInB x y).map .bl
def dNotIn (x y : D) : Option D := (dInB x y).map fun b => .bl (!b)
section
variable {K : PySem.W.Frag} {aS : Addr} {H : Hp} {A : AS}
theorem flat_rep : ∀ {d : D} {v : V}, flatD d = true → Rep K aS H A d v → flatV v = true ∧ ∀ (e : D) (u : V), flatD e = true → Rep K aS H A e u → eqV v u = pyEq d e := by
  intro d v h r
  cases d <;> simp only [flatD, Bool.false_eq_true] at h <;> simp only [Rep] at r <;> subst r <;> refine ⟨rfl, fun e u h2 r2 => ?_⟩ <;> cases e <;> simp only [flatD, Bool.false_eq_true] at h2 <;> simp only [Rep] at r2 <;> subst r2 <;> simp [eqV, pyEq, toPD, PyData.eqv]
theorem flat_all : ∀ {ds : List D} {vs : List V} {x : D} {v : V}, ds.all flatD = true → RepL K aS H A ds vs → flatD x = true → Rep K aS H A x v → vs.all flatV = true ∧ inV v vs = ds.any (fun y => pyEq y x)
  | [], vs, x, v, _, h, _, _ => by
    rw [RepL] at h
    subst h
    exact ⟨rfl, rfl⟩
  | d :: ds, vs, x, v, h, r, hx, rx => by
    rw [RepL] at r
    obtain ⟨w, vr, e, r, q⟩ := r
    subst e
    rw [List.all_cons] at h
    obtain ⟨h1, h2⟩ := Bool.and_eq_true_iff.mp h
    obtain ⟨f1, f2⟩ := flat_rep h1 r
    obtain ⟨i1, i2⟩ := flat_all h2 q hx rx
    refine ⟨by rw [List.all_cons, f1, i1]; rfl, ?_⟩
    unfold inV at i2 ⊢
    rw [List.any_cons, List.any_cons, i2, f2 x v hx rx]
theorem any_pds (x : D) : ∀ ys : List D, (toPDs ys).any (fun z => PyData.eqv z (toPD x)) = ys.any fun y => pyEq y x
  | [] => rfl
  | y :: ys => by rw [toPDs, List.any_cons, List.any_cons, any_pds x ys]; rfl
theorem RepK.val : ∀ {ds : List (Key × D)} {vs : List (Key × V)} (k : Key), RepK K aS H A ds vs → (lookK ds k = none ∧ valV vs k = none) ∨ ∃ d v, lookK ds k = some d ∧ valV vs k = some v ∧ Rep K aS H A d v
  | [], vs, k, h => by
    rw [RepK] at h
    subst h
    exact .inl ⟨rfl, rfl⟩
  | (k', d) :: ds, vs, k, h => by
    rw [RepK] at h
    obtain ⟨v, vr, e, r, q⟩ := h
    subst e
    unfold lookK valV
    rw [List.find?_cons, List.find?_cons]
    by_cases hk : k' = k
    · simp only [hk, decide_true]
      exact .inr ⟨d, v, rfl, rfl, r⟩
    · simp only [hk, decide_false]
      exact RepK.val k q
theorem key_rep {d : D} {v : V} {k : Key} (h : keyD d = some k) (r : RepB K aS H A d v) : v = kV k := by
  cases d <;> simp only [keyD] at h <;> cases h
  · exact repB_int r
  · exact repB_str r
end
section
variable {X : Cx}
theorem op_dIn (hu : X.A.units + 1 < cLine) : OpR X (compareOp .In) (fun x y H Q => ∃ a o, y = .ref a ∧ DGet H a x o ∧ Q (.bl o.isSome) H) :=
  fun _ _ _ H _ _ _ _ _ inv rx ry ⟨_, o, ey, g, q⟩ => by
    subst ey
    cases ry
    exact d_in hu inv g rx fun _ inv' => ⟨.bl o.isSome, H, inv', rfl, q⟩
theorem op_dNotIn (hu : X.A.units + 1 < cLine) : OpR X (compareOp .NotIn) (fun x y H Q => ∃ a o, y = .ref a ∧ DGet H a x o ∧ Q (.bl (!o.isSome)) H) :=
  fun _ _ _ H _ _ _ _ _ inv rx ry ⟨_, o, ey, g, q⟩ => by
    subst ey
    cases ry
    exact d_notIn hu inv g rx fun _ inv' => ⟨.bl (!o.isSome), H, inv', rfl, q⟩
theorem od_in (hu : X.A.units + 65 < cLine) : OpD X (compareOp .In) dIn := by
  refine ⟨_, OpR.or (op_inD hu) (OpR.or op_in_seq (OpR.or (op_dIn (by omega)) op_in_sign)), fun aS H A n d1 d2 d v1 v2 Q c r1 r2 e w => ?_⟩
  unfold dIn at e
  cases hb : dInB d1 d2 with
  | none => rw [hb] at e; cases e
  | some b =>
    rw [hb] at e
    cases e
    unfold dInB at hb
    split at hb
    · split at hb
      · rename_i x ys h
        cases hb
        obtain ⟨h1, h2⟩ := Bool.and_eq_true_iff.mp h
        have q2 := r2.dp (okD_lay h2)
        rw [toPD] at q2
        refine .inl ⟨_, _, r1.dp (okD_lay h1), q2, h1, h2, ?_⟩
        rw [any_pds]
        exact w _ _ KpS.refl c.st rep_bl
      · cases hb
    · split at hb
      · rename_i x ys h
        cases hb
        obtain ⟨h1, h2⟩ := Bool.and_eq_true_iff.mp h
        obtain ⟨a, xs, e2, h3, q2⟩ := repB_tup r2
        have r1' : Rep X.K aS H A d1 v1 := by cases d1 <;> first | exact r1 | (simp only [flatD, Bool.false_eq_true] at h1)
        obtain ⟨i1, i2⟩ := flat_all h2 q2 h1 r1'
        refine .inr (.inl ⟨a, xs, e2, .inr h3.sq, (flat_rep h1 r1').1, i1, ?_⟩)
        rw [if_neg (by decide), i2]
        exact w _ _ KpS.refl c.st rep_bl
      · cases hb
    · rename_i x kvs
      cases hk : keyD d1 with
      | none => rw [hk] at hb; cases hb
      | some k =>
        rw [hk] at hb
        cases hb
        obtain ⟨a, ys, e2, n2, h3, q2⟩ := repB_dic r2
        have e1 := key_rep hk r1
        refine .inr (.inr (.inl ⟨a, valV ys k, e2, .inl ⟨ys, k, h3, e1, rfl⟩, ?_⟩))
        rcases q2.val k with ⟨z1, z2⟩ | ⟨d, v, z1, z2, z3⟩
        · simp only [z1] at w
          rw [z2]
          exact w _ _ KpS.refl c.st rep_bl
        · simp only [z1] at w
          rw [z2]
          exact w _ _ KpS.refl c.st rep_bl
    · rename_i x z
      split at hb
      · rename_i k hk
        cases hb
        have ex : x = ⟨#[k]⟩ := by
          obtain ⟨cp⟩ := x
          have : cp.toList = [k] := hk
          rw [← Array.toArray_toList (xs := cp), this]
        rw [ex] at r1
        exact .inr (.inr (.inr ⟨k, z, repB_str r1, repB_str r2, w _ _ KpS.refl c.st rep_bl⟩))
      · cases hb
    · cases hb
theorem od_notIn (hu : X.A.units + 65 < cLine) : OpD X (compareOp .NotIn) dNotIn := by
  refine ⟨_, OpR.or (op_notInD hu) (OpR.or op_notIn_seq (OpR.or (op_dNotIn (by omega)) op_notIn_sign)), fun aS H A n d1 d2 d v1 v2 Q c r1 r2 e w => ?_⟩
  unfold dNotIn at e
  cases hb : dInB d1 d2 with
  | none => rw [hb] at e; cases e
  | some b =>
    rw [hb] at e
    cases e
    unfold dInB at hb
    split at hb
    · split at hb
      · rename_i x ys h
        cases hb
        obtain ⟨h1, h2⟩ := Bool.and_eq_true_iff.mp h
        have q2 := r2.dp (okD_lay h2)
        rw [toPD] at q2
        refine .inl ⟨_, _, r1.dp (okD_lay h1), q2, h1, h2, ?_⟩
        rw [any_pds]
        exact w _ _ KpS.refl c.st rep_bl
      · cases hb
    · split at hb
      · rename_i x ys h
        cases hb
        obtain ⟨h1, h2⟩ := Bool.and_eq_true_iff.mp h
        obtain ⟨a, xs, e2, h3, q2⟩ := repB_tup r2
        have r1' : Rep X.K aS H A d1 v1 := by cases d1 <;> first | exact r1 | (simp only [flatD, Bool.false_eq_true] at h1)
        obtain ⟨i1, i2⟩ := flat_all h2 q2 h1 r1'
        refine .inr (.inl ⟨a, xs, e2, .inr h3.sq, (flat_rep h1 r1').1, i1, ?_⟩)
        rw [if_pos rfl, i2]
        exact w _ _ KpS.refl c.st rep_bl
      · cases hb
    · rename_i x kvs
      cases hk : keyD d1 with
      | none => rw [hk] at hb; cases hb
      | some k =>
        rw [hk] at hb
        cases hb
        obtain ⟨a, ys, e2, n2, h3, q2⟩ := repB_dic r2
        have e1 := key_rep hk r1
        refine .inr (.inr (.inl ⟨a, valV ys k, e2, .inl ⟨ys, k, h3, e1, rfl⟩, ?_⟩))
        rcases q2.val k with ⟨z1, z2⟩ | ⟨d, v, z1, z2, z3⟩
        · simp only [z1] at w
          rw [z2]
          exact w _ _ KpS.refl c.st rep_bl
        · simp only [z1] at w
          rw [z2]
          exact w _ _ KpS.refl c.st rep_bl
    · rename_i x z
      split at hb
      · rename_i k hk
        cases hb
        have ex : x = ⟨#[k]⟩ := by
          obtain ⟨cp⟩ := x
          have : cp.toList = [k] := hk
          rw [← Array.toArray_toList (xs := cp), this]
        rw [ex] at r1
        exact .inr (.inr (.inr ⟨k, z, repB_str r1, repB_str r2, w _ _ KpS.refl c.st rep_bl⟩))
      · cases hb
    · cases hb
end
end DL
namespace DL
open PySem PySem.Spec PyProof.Rows L2
/-! ### subscripts -/
def dIdx : D → D → Option D
  | .lst xs, .int i => atI xs i
  | .tup xs, .int i => atI xs i
  | .str x, .int i => if x.length ≤ LIM then (atI x.cps.toList i).map fun c => .str ⟨#[c]⟩ else none
  | .dic kvs, k => (keyD k).bind (lookK kvs)
  | _, _ => none
theorem RepL.atI {K : PySem.W.Frag} {aS : Addr} {H : Hp} {A : AS} {ds : List D} {vs : List V} {i : Int} {d : D} (r : RepL K aS H A ds vs) (h : L2.atI ds i = some d) : ∃ v, L2.atI vs i = some v ∧ Rep K aS H A d v := by
  unfold L2.atI at h ⊢
  rw [r.length]
  cases e : ixN ds.length i with
  | none => rw [e] at h; cases h
  | some j =>
    rw [e] at h
    exact r.get h
section
variable {X : Cx} {E : XK} {O : List Nat} {a b e : Expr} {ma mb m : EM D} {pos : Pos}
/-- a dict by a key, read whatever its lock -/
theorem ix_dict (hu : X.A.units + 1 < cLine) : IxR X (fun x y H Q => ∃ a v, x = .ref a ∧ DGet H a y (some v) ∧ Q v H) :=
  fun _ _ _ _ _ H _ _ _ _ _ I rx ry ⟨_, v, ex, g, q⟩ hs => by
    subst ex
    cases rx
    exact tail_any (dict_typeIs I g) PySem.F.slot_dict_getitem.lookup (d_getItem hu I g ry fun _ _ I' r' => ⟨v, H, I', r', q⟩) hs
theorem ve_sub (hu : X.A.units + 1 < cLine) (ha : VB X E O a ma) (hb : VB X E O b mb) (hp : PlainIx b) : VE X E O (.Subscript a b pos) (eBin dIdx ma mb) := by
  obtain ⟨mna, ta, pa, fa⟩ := ha
  obtain ⟨mnb, tb, pb, fb⟩ := hb
  refine ⟨mn_bin mna mnb, _, pe_ix (IxR.or ix_list (IxR.or ix_tup (IxR.or ix_str (ix_dict hu)))) pa pb hp, fun aS A0 H0 σ H s n xq Q S L hm => ?_⟩
  refine fa aS A0 H0 σ H s n xq _ S L (mna _ _ _ _ _ (fun d1 n1 q v1 H1 k1 st1 r0 => ?_) hm)
  refine fb aS A0 H0 σ H1 s n1 xq _ (S.step k1 st1) L (mnb _ _ _ _ _ (fun d2 n2 q2 v2 H2 k2 st2 r2 => ?_) q)
  obtain ⟨d, e, q3⟩ := q2
  have r1 := r0.kp k2 st1 AV.st
  clear r0
  have w := fun v r => q3 v H2 (k1.trans k2) st2 r
  unfold dIdx at e
  split at e
  · obtain ⟨p, xs, e1, _, h1, rl⟩ := repB_lst r1
    obtain ⟨v, e2, r⟩ := rl.atI e
    exact .inl ⟨p, xs, _, v, e1, repB_int r2, SqL.of h1, e2, w v r⟩
  · obtain ⟨p, xs, e1, h1, rl⟩ := repB_tup r1
    obtain ⟨v, e2, r⟩ := rl.atI e
    exact .inr (.inl ⟨p, xs, _, v, e1, repB_int r2, h1.sq, e2, w v r⟩)
  · split at e
    · rename_i x i hl
      cases ec : L2.atI x.cps.toList i with
      | none => rw [ec] at e; cases e
      | some c =>
        rw [ec] at e
        cases e
        exact .inr (.inr (.inl ⟨x, i, c, repB_str r1, repB_int r2, lim_line hl, ec, w _ rep_str⟩))
    · cases e
  · cases ek : keyD d2 with
    | none => rw [ek] at e; cases e
    | some k =>
      rw [ek] at e
      obtain ⟨p, ys, e1, _, h1, rk⟩ := repB_dic r1
      rcases rk.val k with ⟨z1, z2⟩ | ⟨d', v, z1, z2, z3⟩
      · have e : lookK _ k = some d := e
        rw [z1] at e; cases e
      · have e : lookK _ k = some d := e
        rw [z1] at e
        cases e
        exact .inr (.inr (.inr ⟨p, v, e1, .inl ⟨ys, k, h1, key_rep ek r2, z2.symm⟩, w v z3⟩))
  · cases e
/-! ### slices -/
def cutL {α : Type} (xs : List α) (lo hi : Option Int) : List α := (xs.drop (HT.sIx xs.length 0 lo)).take (HT.sIx xs.length xs.length hi - HT.sIx xs.length 0 lo)
def dSl : D → Option Int → Option Int → Option D
  | .lst xs, lo, hi => some (.lst (cutL xs lo hi))
  | .tup xs, lo, hi => some (.tup (cutL xs lo hi))
  | .str x, lo, hi => if x.length ≤ LIM then some (.str (cutS x lo hi)) else none
  | _, _, _ => none
theorem RepL.cut {K : PySem.W.Frag} {aS : Addr} {H : Hp} {A : AS} {ds : List D} {vs : List V} {lo hi : Option Int} (r : RepL K aS H A ds vs) : RepL K aS H A (cutL ds lo hi) (cutV vs lo hi) := by
  unfold cutL cutV
  rw [r.length]
  exact (r.drop _).take _
def VO (X : Cx) (E : XK) (O : List Nat) (e : Option Expr) (m : EM (Option Int)) : Prop := Mn m ∧ ∃ t, PO X e t ∧ ∀ (aS : Addr) (A0 : A0T) (H0 : Hp) (σ : L2.St) (H : Hp) (s : Ev) (n : Nat) (xq : XQ) (Q : Option Int → Hp → Prop), SR X.K aS O A0 H0 σ H s n → LX X.K E aS A0 H0 xq →
  m xq s n (fun b n' => ∀ H', KpS aS H H' → StA X.K aS H' n' → Q b H') → t σ H Q
def oNone : EM (Option Int) := fun _ _ n Q => Q none n
def oSome (m : EM D) : EM (Option Int) := fun xq s n Q => m xq s n fun d n1 => ∃ i, d = .int i ∧ Q (some i) n1
theorem vo_none : VO X E O none oNone := ⟨fun _ _ _ _ _ hq h => hq _ _ h, _, po_none, fun aS A0 H0 σ H s n xq Q S L hm => hm H KpS.refl S.st⟩
theorem vo_some (h : VB X E O e m) : VO X E O (some e) (oSome m) := by
  obtain ⟨mn, t, p, f⟩ := h
  refine ⟨fun xq s n Q Q' hq h => mn _ _ _ _ _ (fun _ _ ⟨i, e, q⟩ => ⟨i, e, hq _ _ q⟩) h, _, po_some p, fun aS A0 H0 σ H s n xq Q S L hm => ?_⟩
  refine f aS A0 H0 σ H s n xq _ S L (mn _ _ _ _ _ (fun d n1 q v H1 k1 st1 r1 => ?_) hm)
  obtain ⟨i, e, q⟩ := q
  subst e
  exact ⟨i, repB_int r1, q H1 k1 st1⟩
def eSl (m : EM D) (lo hi : EM (Option Int)) : EM D := fun xq s n Q => m xq s n fun d n1 => lo xq s n1 fun l n2 => hi xq s n2 fun h n3 => ∃ r, dSl d l h = some r ∧ Q r n3
theorem ve_slice {lo hi : Option Expr} {ml mh : EM (Option Int)} {p2 : Pos} (ha : VB X E O a ma) (hl : VO X E O lo ml) (hh : VO X E O hi mh) : VE X E O (.Subscript a (.Slice lo hi none p2) pos) (eSl ma ml mh) := by
  obtain ⟨mna, ta, pa, fa⟩ := ha
  obtain ⟨mnl, tl, pl, fl⟩ := hl
  obtain ⟨mnh, th, ph, fh⟩ := hh
  refine ⟨fun xq s n Q Q' hq h => mna _ _ _ _ _ (fun _ _ h => mnl _ _ _ _ _ (fun _ _ h => mnh _ _ _ _ _ (fun _ _ ⟨r, e, q⟩ => ⟨r, e, hq _ _ q⟩) h) h) h, _,
    pe_slice (SlR.or sl_list (SlR.or sl_tupA sl_str)) pa pl ph, fun aS A0 H0 σ H s n xq Q S L hm => ?_⟩
  refine fa aS A0 H0 σ H s n xq _ S L (mna _ _ _ _ _ (fun d1 n1 q0 v1 H1 k1 st1 r0 => ?_) hm)
  refine fl aS A0 H0 σ H1 s n1 xq _ (S.step k1 st1) L (mnl _ _ _ _ _ (fun d2 n2 q2 H2 k2 st2 => ?_) q0)
  refine fh aS A0 H0 σ H2 s n2 xq _ ((S.step k1 st1).step k2 st2) L (mnh _ _ _ _ _ (fun d3 n3 q3 H3 k3 st3 => ?_) q2)
  obtain ⟨r, e, q⟩ := q3
  have r1 := (r0.kp k2 st1 AV.st).kp k3 st2 AV.st
  clear r0
  have kk := (k1.trans k2).trans k3
  have c := (S.step kk st3).cn
  unfold dSl at e
  split at e
  · cases e
    obtain ⟨p, xs, e1, _, h1, rl⟩ := repB_lst r1
    exact .inl ⟨p, xs, e1, SqL.of h1, fun q' hq' => q _ _ (kk.trans (KpS.upd hq')) (st3.upd hq') ((own_new hq' rl.cut).rep (c.new hq'))⟩
  · cases e
    rename_i ds
    obtain ⟨p, xs, e1, h1, rl⟩ := repB_tup r1
    refine .inr (.inl ⟨p, xs, e1, h1.sq, fun hw => q _ _ kk st3 (rep_tup h1 ?_), fun _ q' hq' => q _ _ (kk.trans (KpS.upd hq')) (st3.upd hq') (rep_tup (.inl upd_same) (rl.cut.kpu c hq'))⟩)
    have e2 : cutL ds d2 d3 = ds := by
      unfold cutL
      rw [← rl.length, hw.1, hw.2, List.drop_zero, Nat.sub_zero, rl.length, List.take_length]
    rw [e2]
    exact rl
  · split at e
    · rename_i x hl
      cases e
      exact .inr (.inr ⟨x, repB_str r1, lim_line hl, q _ _ kk st3 rep_str⟩)
    · cases e
  · cases e
end
/-! ### calls of built-ins -/
def dLen : List D → Option D
  | [.lst xs] => some (.int xs.length)
  | [.tup xs] => some (.int xs.length)
  | [.str x] => if x.length ≤ LIM then some (.int x.length) else none
  | [.dic kvs] => some (.int kvs.length)
  | _ => none
theorem rl_one {R : RK} {K : PySem.W.Frag} {aS : Addr} {H : Hp} {A : AS} {d : D} {vs : List V} (h : RL R K aS H A [d] vs) : ∃ v, vs = [v] ∧ R K aS H A d v := by
  obtain ⟨v, vr, e, r, q⟩ := h
  have q : vr = [] := q
  exact ⟨v, by rw [e, q], r⟩
theorem rl_two {R : RK} {K : PySem.W.Frag} {aS : Addr} {H : Hp} {A : AS} {d1 d2 : D} {vs : List V} (h : RL R K aS H A [d1, d2] vs) : ∃ v w, vs = [v, w] ∧ R K aS H A d1 v ∧ R K aS H A d2 w := by
  obtain ⟨v, vr, e, r, q⟩ := h
  obtain ⟨w, e2, r2⟩ := rl_one q
  exact ⟨v, w, by rw [e, e2], r, r2⟩
theorem RepK.length {K : PySem.W.Frag} {aS : Addr} {H : Hp} {A : AS} : ∀ {ds : List (Key × D)} {vs : List (Key × V)}, RepK K aS H A ds vs → vs.length = ds.length
  | [], _, h => by rw [RepK] at h; rw [h]; rfl
  | (k, d) :: ds, vs, h => by
    rw [RepK] at h
    obtain ⟨v, vr, e, r, q⟩ := h
    rw [e, List.length_cons, List.length_cons, RepK.length q]
theorem RepK.keys {K : PySem.W.Frag} {aS : Addr} {H : Hp} {A : AS} : ∀ {ds : List (Key × D)} {vs : List (Key × V)}, RepK K aS H A ds vs → vs.map (·.1) = ds.map (·.1)
  | [], _, h => by rw [RepK] at h; rw [h]; rfl
  | (k, d) :: ds, vs, h => by
    rw [RepK] at h
    obtain ⟨v, vr, e, r, q⟩ := h
    rw [e, List.map_cons, List.map_cons, RepK.keys q]
def kD : Key → D
  | .inl i => .int i
  | .inr x => .str x
theorem rep_kD {K : PySem.W.Frag} {aS : Addr} {H : Hp} {A : AS} (k : Key) : Rep K aS H A (kD k) (kV k) := by
  cases k with
  | inl i => exact rep_int
  | inr x => exact rep_str
theorem rep_keys {K : PySem.W.Frag} {aS : Addr} {H : Hp} {A : AS} : ∀ ks : List Key, RepL K aS H A (ks.map kD) (ks.map kV)
  | [] => RepL.nil
  | k :: ks => RepL.cons (rep_kD k) (rep_keys ks)
section
variable {X : Cx}
/-- len of a dict, locked or not -/
theorem call_lenR : CallR X (.builtin "len") (fun xs H Q => ∃ a kvs, xs = [V.ref a] ∧ Rd H a (.dK kvs) ∧ Q (.int kvs.length) H) :=
  fun _ _ _ H _ _ _ inv rel ⟨_, kvs, ex, rd, q⟩ => by
    subst ex
    obtain ⟨u, eu, ru⟩ := vals1 rel
    subst eu
    cases ru
    exact d_len inv rd fun t _ inv' => ⟨.int kvs.length, H, inv', ⟨t, rfl⟩, q⟩
theorem cd_len : CallD X (.builtin "len") dLen := by
  refine ⟨_, CallR.or call_len call_lenR, fun aS H A n ds d vs Q c rl e w => ?_⟩
  unfold dLen at e
  split at e
  · cases e
    obtain ⟨v, e1, r⟩ := rl_one rl
    obtain ⟨p, xs, e2, _, h1, q⟩ := repB_lst r
    subst e1 e2
    refine .inl ⟨_, xs.length, rfl, .inl ⟨xs, SqL.of h1, rfl⟩, ?_⟩
    rw [q.length]
    exact w _ _ KpS.refl c.st rep_int
  · cases e
    obtain ⟨v, e1, r⟩ := rl_one rl
    obtain ⟨p, xs, e2, h1, q⟩ := repB_tup r
    subst e1 e2
    refine .inl ⟨_, xs.length, rfl, .inr ⟨xs, h1.sq, rfl⟩, ?_⟩
    rw [q.length]
    exact w _ _ KpS.refl c.st rep_int
  · split at e
    · rename_i x hl
      cases e
      obtain ⟨v, e1, r⟩ := rl_one rl
      have e2 := repB_str r
      subst e1 e2
      exact .inl ⟨_, _, rfl, ⟨lim_line hl, rfl⟩, w _ _ KpS.refl c.st rep_int⟩
    · cases e
  · cases e
    obtain ⟨v, e1, r⟩ := rl_one rl
    obtain ⟨p, xs, e2, _, h1, q⟩ := repB_dic r
    subst e1 e2
    refine .inr ⟨_, xs, rfl, h1, ?_⟩
    rw [q.length]
    exact w _ _ KpS.refl c.st rep_int
  · cases e
/-- what a walk over the keys has gathered are the keys -/
theorem keys_got {kvs : List (Key × V)} {vs : List (Key × Value)} {acc : Array Value} (rel : KV kvs vs) (len : acc.size = vs.length) (each : ∀ (j : Nat) (w : Value), acc[j]? = some w → ∃ (k : Key) (y : Value), vs[j]? = some (k, y) ∧ keyIs k w = true) : Vals ((kvs.map (·.1)).map kV) acc.toList :=
  vals_of_at (by simpa [len] using KV.length rel) fun j x w ex ew => by
    obtain ⟨k, y, at_, is⟩ := each j w (by rwa [Array.getElem?_toList] at ew)
    have key : ((kvs.map (·.1)).map kV)[j]? = some (kV k) := by rw [KV.keys rel, List.getElem?_map, List.getElem?_map, at_]; rfl
    cases key.symm.trans ex
    exact keyIs_rel is
/-- list(d), whether d is locked or not -/
theorem call_listR (hc : X.calm = true) : CallR X (.type "list") (fun xs H Q => ∃ p kvs, xs = [.ref p] ∧ Rd H p (.dK kvs) ∧ ∀ q, H q = none → Q (.ref q) (upd H q (.lst ((kvs.map (·.1)).map kV)))) :=
  fun pins s σ H _ _ Q inv rel ⟨p, kvs, ex, rd, q⟩ => by
    subst ex
    obtain ⟨u, eu, ru⟩ := vals1 rel
    subst eu
    cases ru
    obtain ⟨few, notSys, vs, kv, dict⟩ := dk_rd inv.hok rd
    obtain ⟨ep, laid⟩ := dict.dictAt
    refine PySem.W.kdl_call (PySem.W.kdl_dict (knd := mixKind X.prog X.w) (kvs := vs) (ep := ep) notSys) (inv.ok.hd hc) laid (KV.length kv ▸ few) fun h' tk acc c' same made got => ?_
    have new : ObjOk X.prog X.w (upd H s.heap.objs.size (.lst ((kvs.map (·.1)).map kV))) h' s.heap.objs.size (.lst ((kvs.map (·.1)).map kV)) := ⟨by simpa using few, _, c', keys_got kv got.1 got.2, by simpa using made⟩
    exact ⟨.ref s.heap.objs.size, _, inv.laid same (Nat.le_refl _) new, rfl, q _ (inv.hok.fresh (Nat.le_refl _))⟩
def dList : List D → Option D
  | [.lst xs] => some (.lst xs)
  | [.tup xs] => some (.lst xs)
  | [.dic kvs] => some (.lst ((kvs.map (·.1)).map kD))
  | _ => none
theorem cf_list (hc : X.calm = true) : CallF X (.type "list") dList := by
  refine ⟨_, CallR.or call_list_of (call_listR hc), fun aS H A n ds d vs Q c rl e w => ?_⟩
  unfold dList at e
  split at e
  · cases e
    obtain ⟨v, e1, r⟩ := rl_one rl
    obtain ⟨p, xs, e2, _, h1, q⟩ := repB_lst r
    subst e1 e2
    exact .inl ⟨p, xs, rfl, .inl (SqL.of h1), fun l hl => w _ _ hl (KpS.upd hl) (c.st.upd hl) (own_new hl q)⟩
  · cases e
    obtain ⟨v, e1, r⟩ := rl_one rl
    obtain ⟨p, xs, e2, h1, q⟩ := repB_tup r
    subst e1 e2
    exact .inl ⟨p, xs, rfl, .inr h1.sq, fun l hl => w _ _ hl (KpS.upd hl) (c.st.upd hl) (own_new hl q)⟩
  · cases e
    obtain ⟨v, e1, r⟩ := rl_one rl
    obtain ⟨p, xs, e2, _, h1, q⟩ := repB_dic r
    subst e1 e2
    refine .inr ⟨p, xs, rfl, h1, fun l hl => w _ _ hl (KpS.upd hl) (c.st.upd hl) (own_new hl ?_)⟩
    rw [q.keys]
    exact rep_keys _
  · cases e
def dTuple : List D → Option D
  | [.lst xs] => some (.tup xs)
  | [.tup xs] => some (.tup xs)
  | _ => none
theorem cd_tuple : CallD X (.type "tuple") dTuple := by
  refine ⟨_, call_tuple_of, fun aS H A n ds d vs Q c rl e w => ?_⟩
  unfold dTuple at e
  split at e
  · cases e
    obtain ⟨v, e1, r⟩ := rl_one rl
    obtain ⟨p, xs, e2, _, h1, q⟩ := repB_lst r
    subst e1 e2
    exact ⟨p, xs, rfl, .inl ⟨SqL.of h1, fun l hl => w _ _ (KpS.upd hl) (c.st.upd hl) (rep_tup (.inl upd_same) (q.kpu c hl))⟩⟩
  · cases e
    obtain ⟨v, e1, r⟩ := rl_one rl
    obtain ⟨p, xs, e2, h1, q⟩ := repB_tup r
    subst e1 e2
    exact ⟨p, xs, rfl, .inr ⟨h1.sq, w _ _ KpS.refl c.st (rep_tup h1 q)⟩⟩
  · cases e
/-! all, any, sum -/
def boolsD : List D → Option (List Bool)
  | [] => some []
  | .bl b :: ds => (boolsD ds).map (b :: ·)
  | _ => none
def intsD : List D → Option (List Int)
  | [] => some []
  | .int b :: ds => (intsD ds).map (b :: ·)
  | _ => none
theorem bools_rep {K : PySem.W.Frag} {aS : Addr} {H : Hp} {A : AS} : ∀ {ds : List D} {bs : List Bool} {vs : List V}, boolsD ds = some bs → RepL K aS H A ds vs → vs = bs.map V.bl
  | [], bs, vs, h, r => by
    rw [RepL] at r
    cases h
    exact r
  | d :: ds, bs, vs, h, r => by
    rw [RepL] at r
    obtain ⟨v, vr, e, r1, q⟩ := r
    cases d with
    | bl b =>
      rw [boolsD] at h
      cases hb : boolsD ds with
      | none => rw [hb] at h; cases h
      | some cs =>
        rw [hb] at h
        cases h
        simp only [Rep] at r1
        rw [e, r1, bools_rep hb q]
        rfl
    | _ => cases h
theorem ints_rep {K : PySem.W.Frag} {aS : Addr} {H : Hp} {A : AS} : ∀ {ds : List D} {bs : List Int} {vs : List V}, intsD ds = some bs → RepL K aS H A ds vs → vs = bs.map V.int
  | [], bs, vs, h, r => by
    rw [RepL] at r
    cases h
    exact r
  | d :: ds, bs, vs, h, r => by
    rw [RepL] at r
    obtain ⟨v, vr, e, r1, q⟩ := r
    cases d with
    | int b =>
      rw [intsD] at h
      cases hb : intsD ds with
      | none => rw [hb] at h; cases h
      | some cs =>
        rw [hb] at h
        cases h
        simp only [Rep] at r1
        rw [e, r1, ints_rep hb q]
        rfl
    | _ => cases h
def dAll : List D → Option D
  | [.lst xs] => (boolsD xs).map fun bs => .bl (bs.all id)
  | _ => none
def dAny : List D → Option D
  | [.lst xs] => (boolsD xs).map fun bs => .bl (bs.any id)
  | _ => none
def dSum : List D → Option D
  | [.lst xs] => (intsD xs).map fun bs => .int bs.sum
  | _ => none
theorem cd_all (hc : X.calm = true) : CallD X (.builtin "all") dAll := by
  refine ⟨_, cr_all hc, fun aS H A n ds d vs Q c rl e w => ?_⟩
  unfold dAll at e
  split at e
  · rename_i xs
    cases hb : boolsD xs with
    | none => rw [hb] at e; cases e
    | some bs =>
      rw [hb] at e
      cases e
      obtain ⟨v, e1, r⟩ := rl_one rl
      obtain ⟨p, us, e2, _, h1, q⟩ := repB_lst r
      subst e1 e2
      rw [bools_rep hb q] at h1
      exact ⟨p, bs, rfl, SqL.of h1, w _ _ KpS.refl c.st rep_bl⟩
  · cases e
theorem cd_any (hc : X.calm = true) : CallD X (.builtin "any") dAny := by
  refine ⟨_, cr_any hc, fun aS H A n ds d vs Q c rl e w => ?_⟩
  unfold dAny at e
  split at e
  · rename_i xs
    cases hb : boolsD xs with
    | none => rw [hb] at e; cases e
    | some bs =>
      rw [hb] at e
      cases e
      obtain ⟨v, e1, r⟩ := rl_one rl
      obtain ⟨p, us, e2, _, h1, q⟩ := repB_lst r
      subst e1 e2
      rw [bools_rep hb q] at h1
      exact ⟨p, bs, rfl, SqL.of h1, w _ _ KpS.refl c.st rep_bl⟩
  · cases e
theorem cd_sum (hc : X.calm = true) : CallD X (.builtin "sum") dSum := by
  refine ⟨_, cr_sum hc, fun aS H A n ds d vs Q c rl e w => ?_⟩
  unfold dSum at e
  split at e
  · rename_i xs
    cases hb : intsD xs with
    | none => rw [hb] at e; cases e
    | some bs =>
      rw [hb] at e
      cases e
      obtain ⟨v, e1, r⟩ := rl_one rl
      obtain ⟨p, us, e2, _, h1, q⟩ := repB_lst r
      subst e1 e2
      rw [ints_rep hb q] at h1
      exact ⟨p, bs, rfl, SqL.of h1, w _ _ KpS.refl c.st rep_int⟩
  · cases e
/-! isinstance -/
def tyD : D → Option String
  | .non => some "NoneType"
  | .bl _ => some "bool"
  | .int _ => some "int"
  | .str _ => some "str"
  | .lst _ => some "list"
  | .tup _ => some "tuple"
  | .dic _ => some "dict"
  | _ => none
def isTy (a b : String) : Bool := a == b || (a == "bool" && b == "int")
def isB (b : String) : Bool := b == "int" || b == "bool" || b == "str" || b == "list" || b == "tuple" || b == "dict"
theorem kit_tab : ∀ a ∈ ["NoneType", "bool", "int", "str", "list", "tuple", "dict"], ∀ b ∈ ["int", "bool", "str", "list", "tuple", "dict"], kitB a b = some (isTy a b) := by decide +kernel
theorem kit_of_ty {K : PySem.W.Frag} {a b : String} (ha : a ∈ ["NoneType", "bool", "int", "str", "list", "tuple", "dict"]) (hb : isB b = true) : PySem.W.kitOne K (.type a) (.type b) = some (isTy a b) := by
  refine kit_ty (kit_tab a ha b ?_)
  simpa [isB, Bool.or_eq_true, or_assoc] using hb
theorem tyX_of {K : PySem.W.Frag} {aS : Addr} {H : Hp} {A : AS} {d : D} {v : V} {a : String} (h : tyD d = some a) (r : RepB K aS H A d v) : TyX K H v (.type a) ∧ a ∈ ["NoneType", "bool", "int", "str", "list", "tuple", "dict"] := by
  cases d <;> simp only [tyD, Option.some.injEq, reduceCtorEq] at h <;> subst h
  · rw [repB_non r]; exact ⟨.base .non, by simp⟩
  · rw [repB_bl r]; exact ⟨.base (.bl _), by simp⟩
  · rw [repB_int r]; exact ⟨.base (.int _), by simp⟩
  · rw [repB_str r]; exact ⟨.base (.str _), by simp⟩
  · obtain ⟨p, xs, e, h1, q⟩ := repB_tup r
    subst e
    refine ⟨?_, by simp⟩
    rcases h1 with h1 | ⟨o, its, n, hk, hc, _⟩
    · exact .base (.tup h1)
    · exact .kTuple hk hc
  · obtain ⟨p, xs, e, _, h1, q⟩ := repB_lst r
    subst e
    exact ⟨.base (.lst h1), by simp⟩
  · obtain ⟨p, xs, e, _, h1, q⟩ := repB_dic r
    subst e
    refine ⟨?_, by simp⟩
    rcases h1 with h1 | ⟨o, h1⟩
    · exact .base (.dK h1)
    · exact .fDict h1
def tysD : List D → Option (List String)
  | [] => some []
  | .raw (.ty T) :: ds => if isB T = true then (tysD ds).map (T :: ·) else none
  | _ => none
theorem tys_rep {K : PySem.W.Frag} {aS : Addr} {H : Hp} {A : AS} {a : String} (ha : a ∈ ["NoneType", "bool", "int", "str", "list", "tuple", "dict"]) : ∀ {ds : List D} {bs : List String} {vs : List V}, tysD ds = some bs → RepL K aS H A ds vs →
    Paired ClsV vs (bs.map Value.type) ∧ PySem.W.kitAny K (.type a) (bs.map Value.type) = some (bs.any (isTy a))
  | [], bs, vs, h, r => by
    rw [RepL] at r
    subst r
    cases h
    exact ⟨.nil, rfl⟩
  | d :: ds, bs, vs, h, r => by
    rw [RepL] at r
    obtain ⟨v, vr, e, r1, q⟩ := r
    subst e
    unfold tysD at h
    split at h
    · rename_i hz; cases hz
    · rename_i T ds' heq
      cases heq
      split at h
      · rename_i hT
        cases hb : tysD ds with
        | none => rw [hb] at h; cases h
        | some cs =>
          rw [hb] at h
          cases h
          obtain ⟨i1, i2⟩ := tys_rep ha hb q
          simp only [Rep] at r1
          subst r1
          refine ⟨.cons (.ty T) i1, ?_⟩
          rw [List.map_cons, List.any_cons]
          refine kitAny_cons (kit_of_ty ha hT) (fun z => ?_) (fun z => ?_)
          · rw [z, Bool.false_or]; exact i2
          · rw [z]; rfl
      · cases h
    · cases h
def dIsi : List D → Option D
  | [x, .raw (.ty T)] => if isB T = true then (tyD x).map fun a => .bl (isTy a T) else none
  | [x, .tup ts] => match tyD x, tysD ts with
    | some a, some bs => some (.bl (bs.any (isTy a)))
    | _, _ => none
  | _ => none
theorem cd_isi : CallD X (.builtin "isinstance") dIsi := by
  refine ⟨_, CallR.or call_isi (CallR.or call_isiT call_isiK), fun aS H A n ds d vs Q c rl e w => ?_⟩
  unfold dIsi at e
  split at e
  · rename_i x T
    split at e
    · rename_i hT
      cases ht : tyD x with
      | none => rw [ht] at e; cases e
      | some a =>
        rw [ht] at e
        cases e
        obtain ⟨v, u, e1, r1, r2⟩ := rl_two rl
        have e2 := repB_raw r2
        subst e1 e2
        obtain ⟨t1, t2⟩ := tyX_of ht r1
        exact .inl ⟨v, .ty T, .type a, .type T, _, rfl, .ty T, t1, kit_of_ty t2 hT, w _ _ KpS.refl c.st rep_bl⟩
    · cases e
  · rename_i x ts
    split at e
    · rename_i a bs ht hts
      cases e
      obtain ⟨v, u, e1, r1, r2⟩ := rl_two rl
      obtain ⟨p, us, e2, h1, q⟩ := repB_tup r2
      subst e1 e2
      obtain ⟨t1, t2⟩ := tyX_of ht r1
      obtain ⟨i1, i2⟩ := tys_rep t2 hts q
      rcases h1 with h1 | ⟨⟨oc, od, odt, osl⟩, its, n, hk, hc, hdt, _, hv⟩
      · exact .inr (.inl ⟨v, p, us, .type a, bs.map Value.type, _, rfl, h1, i1, t1, i2, w _ _ KpS.refl c.st rep_bl⟩)
      · cases hc
        cases hdt
        have ez := ClsV.all i1 hv
        refine .inr (.inr ⟨v, p, od, bs.map Value.type, n, osl, .type a, _, rfl, ?_, t1, i2, w _ _ KpS.refl c.st rep_bl⟩)
        rw [hk, ← ez, Array.toArray_toList]
    · cases e
  · cases e
end
end DL
namespace DL
open PySem PySem.Spec PyProof.Rows L2
section
variable {K : PySem.W.Frag} {aS a : Addr} {H H' H'' H0 H1 : Hp} {A A' : AS} {A0 : A0T} {O O' : List Nat} {σ : L2.St} {s : Ev} {n n' i : Nat} {d : D} {v : V}
theorem set_other {α : Type} {l : List α} {i j : Nat} {x : α} (h : j ≠ i) : (l.set i x)[j]? = l[j]? := List.getElem?_set_ne (Ne.symm h)
theorem AV.set {A0 : AS} {x : Option V} (hi : i ∉ O) : AV aS A0 O (σ.set i x) = AV aS A0 O σ := by
  funext b
  unfold AV
  refine propext ⟨fun h => ?_, fun h => ?_⟩
  · rcases h with h | h | ⟨j, hj, e⟩
    · exact .inl h
    · exact .inr (.inl h)
    · rw [set_other (show j ≠ i from fun z => hi (z ▸ hj))] at e
      exact .inr (.inr ⟨j, hj, e⟩)
  · rcases h with h | h | ⟨j, hj, e⟩
    · exact .inl h
    · exact .inr (.inl h)
    · refine .inr (.inr ⟨j, hj, ?_⟩)
      rw [set_other (show j ≠ i from fun z => hi (z ▸ hj))]
      exact e
/-- a slot that owns nothing is stored -/
theorem SR.set (S : SR K aS O A0 H0 σ H s n) (hi : i ∉ O) (r : Rep K aS H (AV aS A0 O σ) d v) : SR K aS O A0 H0 (σ.set i (some v)) H (s.set i (some d)) n where
  len := by rw [List.length_set, List.length_set]; exact S.len
  sh := fun j d' e hj => by
    rw [AV.set hi]
    by_cases hji : j = i
    · subst hji
      have hl : j < s.length := by
        have := (List.getElem?_eq_some_iff.mp e).1
        rwa [List.length_set] at this
      rw [List.getElem?_set_self hl] at e
      cases e
      exact ⟨v, List.getElem?_set_self (by rw [S.len]; exact hl), r⟩
    · rw [set_other hji] at e
      rw [set_other hji]
      exact S.sh j d' e hj
  ow := fun j hj => by
    have hji : j ≠ i := fun z => hi (z ▸ hj)
    rw [AV.set hi, set_other hji, set_other hji]
    exact S.ow j hj
  ds := fun j k b hj hk e1 e2 => by
    rw [set_other (show j ≠ i from fun z => hi (z ▸ hj))] at e1
    rw [set_other (show k ≠ i from fun z => hi (z ▸ hk))] at e2
    exact S.ds j k b hj hk e1 e2
  fr := S.fr
  st := S.st
  av := S.av
  pn := fun h a e => by
    rw [set_other (show 0 ≠ i from fun z => hi (z ▸ h))]
    exact S.pn h a e
/-- a slot that owns nothing is forgotten -/
theorem SR.hide (S : SR K aS O A0 H0 σ H s n) (hi : i ∉ O) : SR K aS O A0 H0 σ H (s.set i none) n where
  len := by rw [List.length_set]; exact S.len
  sh := fun j d' e hj => by
    by_cases hji : j = i
    · subst hji
      have hl : j < s.length := by
        have := (List.getElem?_eq_some_iff.mp e).1
        rwa [List.length_set] at this
      rw [List.getElem?_set_self hl] at e
      cases e
    · rw [set_other hji] at e
      exact S.sh j d' e hj
  ow := fun j hj => by
    have hji : j ≠ i := fun z => hi (z ▸ hj)
    rw [set_other hji]
    exact S.ow j hj
  ds := S.ds
  fr := S.fr
  st := S.st
  av := S.av
  pn := S.pn
/-- slots give up what they own -/
theorem SR.rel (S : SR K aS O A0 H0 σ H s n) (h : ∀ j, j ∈ O' → j ∈ O) : SR K aS O' A0 H0 σ H s n := by
  have hle : ∀ b, AV aS A0 O' σ b → AV aS A0 O σ b := fun b z => by
    rcases z with z | z | ⟨j, hj, e⟩
    · exact .inl z
    · exact .inr (.inl z)
    · exact .inr (.inr ⟨j, h j hj, e⟩)
  refine ⟨S.len, fun j d' e hj => ?_, fun j hj => ?_, fun j k b hj hk => S.ds j k b (h j hj) (h k hk), S.fr, S.st, S.av, fun z => S.pn (h 0 z)⟩
  · by_cases ho : j ∈ O
    · obtain ⟨d'', b, e1, e2, e3, e4, e5, e6⟩ := S.ow j ho
      rw [e] at e1
      cases e1
      refine ⟨_, e2, (e6.mono hle).rep0 fun z => ?_⟩
      rcases z with z | z | ⟨k, hk, e⟩
      · exact e4 z
      · exact e5 z
      · exact hj (S.ds j k b ho (h k hk) e2 e ▸ hk)
    · obtain ⟨v, e1, r⟩ := S.sh j d' e ho
      exact ⟨v, e1, Rep.mono (sub_le hle) _ _ r⟩
  · obtain ⟨d'', b, e1, e2, e3, e4, e5, e6⟩ := S.ow j (h j hj)
    exact ⟨d'', b, e1, e2, e3, e4, e5, e6.mono hle⟩
/-- a new object is owned by a slot -/
theorem SR.own (S : SR K aS O A0 H0 σ H s n) (hi : i ∉ O) (hi0 : i ≠ 0) (hl : i < s.length) (ha : H a = none) (k : KpS aS H H') (t : StA K aS H' n') (o : Own K aS H' (fun b => AV aS A0 O σ b ∨ b = a) a d) : SR K aS (i :: O) A0 H0 (σ.set i (some (.ref a))) H' (s.set i (some d)) n' := by
  have hlσ : i < σ.length := by rw [S.len]; exact hl
  have eA : AV aS A0 (i :: O) (σ.set i (some (.ref a))) = fun b => AV aS A0 O σ b ∨ b = a := by
    funext b
    refine propext ⟨fun z => ?_, fun z => ?_⟩
    · rcases z with z | z | ⟨j, hj, e⟩
      · exact .inl (.inl z)
      · exact .inl (.inr (.inl z))
      · by_cases hji : j = i
        · subst hji
          rw [List.getElem?_set_self hlσ] at e
          cases e
          exact .inr rfl
        · rw [set_other hji] at e
          exact .inl (.inr (.inr ⟨j, (List.mem_cons.mp hj).resolve_left hji, e⟩))
    · rcases z with (z | z | ⟨j, hj, e⟩) | z
      · exact .inl z
      · exact .inr (.inl z)
      · refine .inr (.inr ⟨j, List.mem_cons_of_mem _ hj, ?_⟩)
        rw [set_other (show j ≠ i from fun z => hi (z ▸ hj))]
        exact e
      · refine .inr (.inr ⟨i, List.mem_cons_self, ?_⟩)
        rw [z]
        exact List.getElem?_set_self hlσ
  have hs := S.st.lst
  have sub : Sub K H H' (AV aS A0 O σ) (fun b => AV aS A0 O σ b ∨ b = a) := by
    obtain ⟨ys, hs⟩ := hs
    have ne : ∀ b, ¬ AV aS A0 O σ b → b ≠ aS := fun b h e => h (.inr (.inl e))
    refine ⟨fun b xs h q => ⟨fun z => z.elim h (ne_of_none q ha), k _ _ q (ne b h)⟩, fun b xs q => TpA.kp k hs q, fun b ys h q => ⟨fun z => z.elim h ?_, Rd.kp k (ne b h) q⟩, fun b C dx ys h q => ⟨fun z => z.elim h (ne_of_none q ha), k _ _ q (ne b h)⟩⟩
    rcases q with q | ⟨_, q⟩
    · exact ne_of_none q ha
    · exact ne_of_none q ha
  have own_at : ∀ j, j ∈ O → ∃ d' b, s[j]? = some (some d') ∧ σ[j]? = some (some (.ref b)) ∧ H0 b = none ∧ ¬ A0 b ∧ b ≠ aS ∧ b ≠ a ∧ Own K aS H' (fun b => AV aS A0 O σ b ∨ b = a) b d' := fun j hj => by
    obtain ⟨d', b, e1, e2, e3, e4, e5, e6⟩ := S.ow j hj
    refine ⟨d', b, e1, e2, e3, e4, e5, fun z => S.new ha (.inr (.inr ⟨j, hj, z ▸ e2⟩)), ?_⟩
    cases d' with
    | lst ds => obtain ⟨xs, e, q⟩ := e6; exact ⟨xs, k _ _ e e5, RepL.mono sub _ _ q⟩
    | dic ds => obtain ⟨xs, e, q⟩ := e6; exact ⟨xs, k _ _ e e5, RepK.mono sub _ _ q⟩
    | obj C ds => obtain ⟨dx, xs, e, q⟩ := e6; exact ⟨dx, xs, k _ _ e e5, RepF.mono sub _ _ q⟩
    | _ => exact e6.elim
  refine ⟨by rw [List.length_set, List.length_set]; exact S.len, fun j d' e hj => ?_, fun j hj => ?_, fun j l b hj hk e1 e2 => ?_, S.fr.trans k, t, (S.step k t).av, fun z b e => by
    rw [set_other (Ne.symm hi0)]
    exact S.pn ((List.mem_cons.mp z).resolve_left (Ne.symm hi0)) b e⟩
  · rw [eA]
    have hji : j ≠ i := fun z => hj (z ▸ List.mem_cons_self)
    rw [set_other hji] at e ⊢
    obtain ⟨v, e1, r⟩ := S.sh j d' e (fun z => hj (List.mem_cons_of_mem _ z))
    exact ⟨v, e1, Rep.mono sub _ _ r⟩
  · rw [eA]
    by_cases hji : j = i
    · subst hji
      rw [List.getElem?_set_self hl, List.getElem?_set_self hlσ]
      refine ⟨d, a, rfl, rfl, ?_, fun z => S.new ha (.inl z), fun z => S.new ha (.inr (.inl z)), o⟩
      cases e : H0 a with
      | none => rfl
      | some u =>
        have := S.fr a u e (fun z => S.new ha (.inr (.inl z)))
        rw [ha] at this; cases this
    · rw [set_other hji, set_other hji]
      obtain ⟨d', b, e1, e2, e3, e4, e5, e6, e7⟩ := own_at j ((List.mem_cons.mp hj).resolve_left hji)
      exact ⟨d', b, e1, e2, e3, e4, e5, e7⟩
  · by_cases hji : j = i
    · by_cases hki : l = i
      · rw [hji, hki]
      · rw [hji, List.getElem?_set_self hlσ] at e1
        rw [set_other hki] at e2
        cases e1
        exact (S.new ha (.inr (.inr ⟨l, (List.mem_cons.mp hk).resolve_left hki, e2⟩))).elim
    · by_cases hki : l = i
      · rw [hki, List.getElem?_set_self hlσ] at e2
        rw [set_other hji] at e1
        cases e2
        exact (S.new ha (.inr (.inr ⟨j, (List.mem_cons.mp hj).resolve_left hji, e1⟩))).elim
      · rw [set_other hji] at e1
        rw [set_other hki] at e2
        exact S.ds j l b ((List.mem_cons.mp hj).resolve_left hji) ((List.mem_cons.mp hk).resolve_left hki) e1 e2
/-- what a slot owns is changed -/
theorem SR.mut {o o' : HO} (S : SR K aS O A0 H0 σ H s n) (hi : i ∈ O) (e : σ[i]? = some (some (.ref a))) (ho : H a = some o) (hk : ∀ xs, o ≠ .tup xs) (hf : ∀ ob u, o ≠ .frz ob u)
    (new : Own K aS (upd H a o') (AV aS A0 O σ) a d) : SR K aS O A0 H0 σ (upd H a o') (s.set i (some d)) n := by
  obtain ⟨d0, a', e1, e2, e3, e4, e5, e6⟩ := S.ow i hi
  rw [e] at e2
  cases e2
  have hl : i < s.length := (List.getElem?_eq_some_iff.mp e1).1
  have hA : AV aS A0 O σ a := .inr (.inr ⟨i, hi, e⟩)
  have up : ∀ b u, H b = some u → b ≠ a → upd H a o' b = some u := fun b u q z => by rw [upd_ne z]; exact q
  have sub : Sub K H (upd H a o') (AV aS A0 O σ) (AV aS A0 O σ) := by
    have ne : ∀ b, ¬ AV aS A0 O σ b → b ≠ a := fun b h z => h (z ▸ hA)
    refine ⟨fun b xs h q => ⟨h, up _ _ q (ne b h)⟩, fun b xs q => q.elim (fun q => .inl (up _ _ q fun z => ?_)) .inr, fun b ys h q => ⟨h, ?_⟩, fun b C dx ys h q => ⟨h, up _ _ q (ne b h)⟩⟩
    · rw [z, ho] at q
      cases q
      exact hk _ rfl
    · rcases q with q | ⟨z, q⟩
      · exact .inl (up _ _ q (ne b h))
      · exact .inr ⟨z, up _ _ q (ne b h)⟩
  refine ⟨by rw [List.length_set]; exact S.len, fun j d' ej hj => ?_, fun j hj => ?_, S.ds, fun b u q z => up _ _ (S.fr b u q z) (fun z => by rw [z, e3] at q; cases q), ?_, fun b hb => ?_, S.pn⟩
  · have hji : j ≠ i := fun z => hj (z ▸ hi)
    rw [set_other hji] at ej
    obtain ⟨v, q1, r⟩ := S.sh j d' ej hj
    exact ⟨v, q1, Rep.mono sub _ _ r⟩
  · by_cases hji : j = i
    · subst hji
      rw [List.getElem?_set_self hl]
      exact ⟨d, a, rfl, e, e3, e4, e5, new⟩
    · rw [set_other hji]
      obtain ⟨d', b, q1, q2, q3, q4, q5, q6⟩ := S.ow j hj
      have hb : b ≠ a := fun z => hji (S.ds j i a hj hi (z ▸ q2) e)
      refine ⟨d', b, q1, q2, q3, q4, q5, ?_⟩
      cases d' with
      | lst ds => obtain ⟨xs, e, q⟩ := q6; exact ⟨xs, up _ _ e hb, RepL.mono sub _ _ q⟩
      | dic ds => obtain ⟨xs, e, q⟩ := q6; exact ⟨xs, up _ _ e hb, RepK.mono sub _ _ q⟩
      | obj C ds => obtain ⟨dx, xs, e, q⟩ := q6; exact ⟨dx, xs, up _ _ e hb, RepF.mono sub _ _ q⟩
      | _ => exact q6.elim
  · obtain ⟨a0, cs, i', g, m, d', z1, z2, ⟨ob, z3⟩, z4⟩ := S.st
    refine ⟨a0, cs, i', g, m, d', up _ _ z1 (Ne.symm e5), z2, ⟨ob, up _ _ z3 fun z => ?_⟩, z4⟩
    rw [z, ho] at z3
    cases z3
    exact hf _ _ rfl
  · by_cases z : b = a
    · rw [z, upd_same]
      exact ⟨_, rfl⟩
    · obtain ⟨u, q⟩ := S.av b hb
      exact ⟨u, up _ _ q z⟩
/-- the heap without what slots own: what a loop's body starts from -/
noncomputable def bare (O : List Nat) (σ : L2.St) (H : Hp) : Hp := fun b => @ite _ (∃ i, i ∈ O ∧ σ[i]? = some (some (.ref b))) (Classical.propDecidable _) none (H b)
theorem bare_own {b : Addr} (h : ∃ i, i ∈ O ∧ σ[i]? = some (some (.ref b))) : bare O σ H b = none := by
  unfold bare
  rw [if_pos h]
theorem bare_not {b : Addr} (h : ¬ ∃ i, i ∈ O ∧ σ[i]? = some (some (.ref b))) : bare O σ H b = H b := by
  unfold bare
  rw [if_neg h]
theorem bare_some {b : Addr} {u : HO} (h : bare O σ H b = some u) : H b = some u := by
  by_cases z : ∃ i, i ∈ O ∧ σ[i]? = some (some (.ref b))
  · rw [bare_own z] at h; cases h
  · rw [bare_not z] at h; exact h
theorem SR.base (S : SR K aS O A0 H0 σ H s n) : SR K aS O A0 (bare O σ H) σ H s n :=
  ⟨S.len, S.sh, fun j hj => let ⟨d, b, e1, e2, e3, e4, e5, e6⟩ := S.ow j hj; ⟨d, b, e1, e2, bare_own ⟨j, hj, e2⟩, e4, e5, e6⟩, S.ds, fun b u q _ => bare_some q, S.st, S.av, S.pn⟩
theorem SR.le (S : SR K aS O A0 H0 σ H s n) : ∀ b u, H0 b = some u → b ≠ aS → bare O σ H b = some u := fun b u q z => by
  rw [bare_not]
  · exact S.fr b u q z
  · rintro ⟨j, hj, e⟩
    obtain ⟨d, b', e1, e2, e3, _⟩ := S.ow j hj
    rw [e] at e2
    cases e2
    rw [q] at e3
    cases e3
/-- from a later base back to the elder one -/
theorem SR.back (S : SR K aS O A0 H1 σ H s n) (h : ∀ b u, H0 b = some u → b ≠ aS → H1 b = some u) : SR K aS O A0 H0 σ H s n :=
  ⟨S.len, S.sh, fun j hj => let ⟨d, b, e1, e2, e3, e4, e5, e6⟩ := S.ow j hj
    ⟨d, b, e1, e2, Option.eq_none_iff_forall_ne_some.mpr fun u z => (by rw [h b u z e5] at e3; cases e3), e4, e5, e6⟩, S.ds, fun b u q z => S.fr b u (h b u q z) z, S.st, S.av, S.pn⟩
end
end DL
namespace DL
open PySem PySem.Spec PyProof.Rows L2
/-! ### statements -/
def sNil : SM := fun _ de s n => de.nx s n
def sSeq (m r : SM) : SM := fun xq de s n => m xq { de with nx := fun s' n' => r xq de s' n' } s n
def sRet (m : EM D) : SM := fun xq de s n => m xq s n de.rt
def sRetN : SM := fun _ de _ n => de.rt .non n
def sSet (i : Nat) (m : EM D) : SM := fun xq de s n => m xq s n fun d n' => de.nx (s.set i (some d)) n'
def sIf (t : EM Bool) (a b : SM) : SM := fun xq de s n => t xq s n fun c n' => if c = true then a xq de s n' else b xq de s n'
def sDrop (m : EM D) : SM := fun xq de s n => m xq s n fun _ n' => de.nx s n'
def sNever : SM := fun _ _ _ _ => False
def sPass : SM := fun _ de s n => de.nx s n
def sBreak : SM := fun _ de s n => de.bk s n
def sCont : SM := fun _ de s n => de.ct s n
section
variable {X : Cx} {E : XK} {O O' O'' OL : List Nat} {e : Expr} {st : Stmt} {rest : List Stmt} {m : EM D} {ml : EM (List D)} {mt : EM Bool} {ms mr : SM} {pos : Pos} {i : Nat}
theorem vss_nil : VSs X E O O OL [] sNil := ⟨_, pss_nil, fun aS A0 H0 σ H s n xq de De S L k h => k.nx σ H s n S h⟩
theorem vss_cons (h1 : VS X E O O' OL st ms) (h2 : VSs X E O' O'' OL rest mr) : VSs X E O O'' OL (st :: rest) (sSeq ms mr) := by
  obtain ⟨t, p, f⟩ := h1
  obtain ⟨u, p2, f2⟩ := h2
  exact ⟨_, pss_cons p p2, fun aS A0 H0 σ H s n xq de De S L k h => f aS A0 H0 σ H s n xq { de with nx := fun s' n' => mr xq de s' n' } _ S L ⟨fun σ' H' s' n' S' q => f2 aS A0 H0 σ' H' s' n' xq de De S' L k q, k.rt, k.bk, k.ct⟩ h⟩
theorem vss_one (h1 : VS X E O O' OL st ms) : VSs X E O O' OL [st] ms := by
  obtain ⟨t, p, f⟩ := h1
  exact ⟨_, pss_one p, f⟩
/-- what is owned behind may be given up -/
theorem VSs.weak (h : VSs X E O O' OL rest ms) (hw : ∀ j, j ∈ O'' → j ∈ O') : VSs X E O O'' OL rest ms := by
  obtain ⟨t, p, f⟩ := h
  exact ⟨t, p, fun aS A0 H0 σ H s n xq de De S L k q => f aS A0 H0 σ H s n xq de De S L ⟨fun σ' H' s' n' S' q => k.nx σ' H' s' n' (S'.rel hw) q, k.rt, k.bk, k.ct⟩ q⟩
theorem VSs.rel (h : VSs X E O O' OL rest ms) (hw : ∀ j, j ∈ O → j ∈ O'') : VSs X E O'' O' OL rest ms := by
  obtain ⟨t, p, f⟩ := h
  exact ⟨t, p, fun aS A0 H0 σ H s n xq de De S L k q => f aS A0 H0 σ H s n xq de De (S.rel hw) L k q⟩
theorem VS.rel (h : VS X E O O' OL st ms) (hw : ∀ j, j ∈ O → j ∈ O'') : VS X E O'' O' OL st ms := by
  obtain ⟨t, p, f⟩ := h
  exact ⟨t, p, fun aS A0 H0 σ H s n xq de De S L k q => f aS A0 H0 σ H s n xq de De (S.rel hw) L k q⟩
theorem av_nil {aS : Addr} {A0 : AS} {O : List Nat} {σ : L2.St} : ∀ a, AV aS A0 [] [] a → AV aS A0 O σ a := fun a h => by
  rcases h with h | h | ⟨j, hj, _⟩
  · exact .inl h
  · exact .inr (.inl h)
  · cases hj
theorem vs_ret (h : VE X E O e m) : VS X E O O' OL (.Return (some e) pos) (sRet m) := by
  obtain ⟨mn, t, p, f⟩ := h
  refine ⟨_, ps_ret p, fun aS A0 H0 σ H s n xq de De S L k h => f aS A0 H0 σ H s n xq _ S L (mn _ _ _ _ _ (fun d n' q v H' kp st r => k.rt v H' d n' (S.fr.trans kp) st (Rep.mono (sub_le av_nil) _ _ r) q) h)⟩
/-- return of a name that owns -/
theorem vs_retO {x : Str} {p' : Pos} (hi : i ∈ O) (hN : X.N[i]? = some x) (hv : Vis X.env.scope x) (hd : (x == ("__debug__" : Str)) = false := by decide) (hcd : (x == ("__classdict__" : Str)) = false := by decide) : VS X E O O' OL (.Return (some (.Name x p')) pos) (sRet (eVar i)) := by
  refine ⟨_, ps_ret (pe_var hN hv hd hcd), fun aS A0 H0 σ H s n xq de De S L k h => ?_⟩
  obtain ⟨d, e, q⟩ := h
  have S' := S.rel (O' := []) (fun _ z => nomatch z)
  obtain ⟨v, ev, r⟩ := S'.sh i d e (fun z => nomatch z)
  exact ⟨v, ev, k.rt v H d n S.fr S.st (Rep.mono (sub_le av_nil) _ _ r) q⟩
theorem vs_retN : VS X E O O' OL (.Return none pos) sRetN := ⟨_, ps_retN, fun aS A0 H0 σ H s n xq de De S L k h => k.rt .non H .non n S.fr S.st rep_non h⟩
theorem vs_if {c : Expr} {a b : List Stmt} {ma mb : SM} (hc : VT X E O c mt) (ha : VSs X E O O' OL a ma) (hb : VSs X E O O' OL b mb) : VS X E O O' OL (.If c a b pos) (sIf mt ma mb) := by
  obtain ⟨mnc, tc, pc, fc⟩ := hc
  obtain ⟨ta, pa, fa⟩ := ha
  obtain ⟨tb, pb, fb⟩ := hb
  refine ⟨_, ps_if pc pa pb, fun aS A0 H0 σ H s n xq de De S L k h => fc aS A0 H0 σ H s n xq _ S L (mnc _ _ _ _ _ (fun c n1 q H1 k1 st1 => ?_) h)⟩
  cases c with
  | true => exact fa aS A0 H0 σ H1 s n1 xq de De (S.step k1 st1) L k q
  | false => exact fb aS A0 H0 σ H1 s n1 xq de De (S.step k1 st1) L k q
theorem vs_never : VS X E O O' OL st sNever := ⟨_, ps_never, fun aS A0 H0 σ H s n xq de De S L k h => h⟩
theorem vss_never : VSs X E O O' OL rest sNever := ⟨_, pss_never, fun aS A0 H0 σ H s n xq de De S L k h => h⟩
theorem vs_pass : VS X E O O OL (.Pass pos) sPass := ⟨_, ps_pass, fun aS A0 H0 σ H s n xq de De S L k h => k.nx σ H s n S h⟩
theorem vs_break (hw : ∀ j, j ∈ OL → j ∈ O) : VS X E O O' OL (.Break pos) sBreak := ⟨_, ps_break, fun aS A0 H0 σ H s n xq de De S L k h => k.bk σ H s n (S.rel hw) h⟩
theorem vs_cont (hw : ∀ j, j ∈ OL → j ∈ O) : VS X E O O' OL (.Continue pos) sCont := ⟨_, ps_continue, fun aS A0 H0 σ H s n xq de De S L k h => k.ct σ H s n (S.rel hw) h⟩
/-- name = e, the name owns nothing behind -/
theorem vs_set {x : Str} {p' : Pos} (hi : i ∉ O) (hnd : X.N.Nodup) (hN : X.N[i]? = some x) (hx : Loc X.env.scope x) (h : VE X E O e m) (hs : swapsWith e (some (.Name x p')) pos.line X.env = pure false := by rfl)
    (hf : X.fn x = true ∨ X.env.scope.names.lookup x = some .local := by first | exact .inl rfl | exact .inr rfl | assumption) : VS X E O O OL (.Assign [.Name x p'] e pos) (sSet i m) := by
  obtain ⟨mn, t, p, f⟩ := h
  refine ⟨_, ps_set hnd hN hx p hs hf, fun aS A0 H0 σ H s n xq de De S L k h => f aS A0 H0 σ H s n xq _ S L (mn _ _ _ _ _ (fun d n' q v H' kp st r => ?_) h)⟩
  exact k.nx _ H' _ n' ((S.step kp st).set hi r) q
/-- name = a new object: the name owns it -/
theorem vs_setF {x : Str} {p' : Pos} (hi : i ∉ O) (hi0 : i ≠ 0) (hnd : X.N.Nodup) (hN : X.N[i]? = some x) (hx : Loc X.env.scope x) (h : VF X E O e m) (hs : swapsWith e (some (.Name x p')) pos.line X.env = pure false := by rfl)
    (hf : X.fn x = true ∨ X.env.scope.names.lookup x = some .local := by first | exact .inl rfl | exact .inr rfl | assumption) : VS X E O (i :: O) OL (.Assign [.Name x p'] e pos) (fun xq de s n => i < s.length ∧ sSet i m xq de s n) := by
  obtain ⟨mn, t, p, f⟩ := h
  refine ⟨_, ps_set hnd hN hx p hs hf, fun aS A0 H0 σ H s n xq de De S L k h => f aS A0 H0 σ H s n xq _ S L (mn _ _ _ _ _ (fun d n' q a H' ha kp st o => ?_) h.2)⟩
  exact k.nx _ H' _ n' (S.own hi hi0 h.1 ha kp st o) q
theorem vs_expr (h : VE X E O e m) (hs : swapsWith e none pos.line X.env = pure false := by rfl) : VS X E O O OL (.Expr e pos) (sDrop m) := by
  obtain ⟨mn, t, p, f⟩ := h
  exact ⟨_, ps_expr p hs, fun aS A0 H0 σ H s n xq de De S L k h => f aS A0 H0 σ H s n xq _ S L (mn _ _ _ _ _ (fun d n' q v H' kp st r => k.nx _ H' _ n' (S.step kp st) q) h)⟩
/-! ### lists that are owned -/
def sApp (i : Nat) (m : EM D) : SM := fun xq de s n => ∃ ds, s[i]? = some (some (.lst ds)) ∧ m xq s n fun d n' => ds.length < LIM ∧ de.nx (s.set i (some (.lst (ds ++ [d])))) n'
def sExt (i : Nat) (m : EM D) : SM := fun xq de s n => ∃ ds, s[i]? = some (some (.lst ds)) ∧ m xq s n fun d n' => ∃ es, d = .lst es ∧ ds.length + es.length ≤ LIM ∧ de.nx (s.set i (some (.lst (ds ++ es)))) n'
def sIns (i : Nat) (m : EM (List D)) : SM := fun xq de s n => ∃ ds, s[i]? = some (some (.lst ds)) ∧ m xq s n fun l n' => ∃ (k : Nat) (d : D), l = [.int k, d] ∧ ds.length < LIM ∧ k ≤ LIM ∧ de.nx (s.set i (some (.lst (ds.take k ++ [d] ++ ds.drop k)))) n'
theorem own_lst {K : PySem.W.Frag} {aS : Addr} {H H0 : Hp} {A0 : A0T} {O : List Nat} {σ : L2.St} {s : Ev} {n i : Nat} {ds : List D} (S : SR K aS O A0 H0 σ H s n) (hi : i ∈ O) (e : s[i]? = some (some (.lst ds))) : ∃ a xs, σ[i]? = some (some (.ref a)) ∧ a ≠ aS ∧ H a = some (.lst xs) ∧ RepL K aS H (AV aS A0 O σ) ds xs := by
  obtain ⟨d, a, e1, e2, e3, e4, e5, e6⟩ := S.ow i hi
  rw [e] at e1
  cases e1
  obtain ⟨xs, h, r⟩ := e6
  exact ⟨a, xs, e2, e5, h, r⟩
theorem own_dic {K : PySem.W.Frag} {aS : Addr} {H H0 : Hp} {A0 : A0T} {O : List Nat} {σ : L2.St} {s : Ev} {n i : Nat} {ds : List (Key × D)} (S : SR K aS O A0 H0 σ H s n) (hi : i ∈ O) (e : s[i]? = some (some (.dic ds))) : ∃ a xs, σ[i]? = some (some (.ref a)) ∧ a ≠ aS ∧ H a = some (.dK xs) ∧ RepK K aS H (AV aS A0 O σ) ds xs := by
  obtain ⟨d, a, e1, e2, e3, e4, e5, e6⟩ := S.ow i hi
  rw [e] at e1
  cases e1
  obtain ⟨xs, h, r⟩ := e6
  exact ⟨a, xs, e2, e5, h, r⟩
/-- the list a slot owns is another one -/
theorem SR.mutL {K : PySem.W.Frag} {aS a : Addr} {H H0 : Hp} {A0 : A0T} {σ : L2.St} {s : Ev} {n : Nat} {ds : List D} {xs ys : List V} (S : SR K aS O A0 H0 σ H s n) (hi : i ∈ O) (e : σ[i]? = some (some (.ref a))) (ho : H a = some (.lst xs)) (r : RepL K aS H (AV aS A0 O σ) ds ys) :
    SR K aS O A0 H0 σ (upd H a (.lst ys)) (s.set i (some (.lst ds))) n := by
  refine S.mut hi e ho (fun _ z => nomatch z) (fun _ _ z => nomatch z) ⟨ys, upd_same, ?_⟩
  have hA : AV aS A0 O σ a := .inr (.inr ⟨i, hi, e⟩)
  have ne : ∀ b, ¬ AV aS A0 O σ b → b ≠ a := fun b h z => h (z ▸ hA)
  have up : ∀ b u, H b = some u → b ≠ a → upd H a (.lst ys) b = some u := fun b u q z => by rw [upd_ne z]; exact q
  refine RepL.mono ⟨fun b xs h q => ⟨h, up _ _ q (ne b h)⟩, fun b xs q => q.elim (fun q => .inl (up _ _ q fun z => ?_)) .inr, fun b ys h q => ⟨h, ?_⟩, fun b C dx ys h q => ⟨h, up _ _ q (ne b h)⟩⟩ _ _ r
  · have q : H b = _ := q
    rw [z, ho] at q
    cases q
  · rcases q with q | ⟨z, q⟩
    · exact .inl (up _ _ q (ne b h))
    · exact .inr ⟨z, up _ _ q (ne b h)⟩
theorem SR.mutD {K : PySem.W.Frag} {aS a : Addr} {H H0 : Hp} {A0 : A0T} {σ : L2.St} {s : Ev} {n : Nat} {ds : List (Key × D)} {xs ys : List (Key × V)} (S : SR K aS O A0 H0 σ H s n) (hi : i ∈ O) (e : σ[i]? = some (some (.ref a))) (ho : H a = some (.dK xs)) (r : RepK K aS H (AV aS A0 O σ) ds ys) :
    SR K aS O A0 H0 σ (upd H a (.dK ys)) (s.set i (some (.dic ds))) n := by
  refine S.mut hi e ho (fun _ z => nomatch z) (fun _ _ z => nomatch z) ⟨ys, upd_same, ?_⟩
  have hA : AV aS A0 O σ a := .inr (.inr ⟨i, hi, e⟩)
  have ne : ∀ b, ¬ AV aS A0 O σ b → b ≠ a := fun b h z => h (z ▸ hA)
  have up : ∀ b u, H b = some u → b ≠ a → upd H a (.dK ys) b = some u := fun b u q z => by rw [upd_ne z]; exact q
  refine RepK.mono ⟨fun b xs h q => ⟨h, up _ _ q (ne b h)⟩, fun b xs q => q.elim (fun q => .inl (up _ _ q fun z => ?_)) .inr, fun b ys h q => ⟨h, ?_⟩, fun b C dx ys h q => ⟨h, up _ _ q (ne b h)⟩⟩ _ _ r
  · have q : H b = _ := q
    rw [z, ho] at q
    cases q
  · rcases q with q | ⟨z, q⟩
    · exact .inl (up _ _ q (ne b h))
    · exact .inr ⟨z, up _ _ q (ne b h)⟩
theorem lim_lt {k : Nat} (h : k < LIM) : k < sizeLine := by unfold LIM at h; rw [sizeLine_eq]; omega
theorem vs_append {x : Str} {p' ap cp : Pos} (hi : i ∈ O) (hN : X.N[i]? = some x) (hv : Vis X.env.scope x) (h : VE X E O e m)
    (hpe : ∀ {to : TE} {t : TA}, PE X (.Name x p') to → PA X [e] t → PE X (.Call (.Attribute (.Name x p') "append" ap) [e] [] cp) (tBM X.K "list" rAppend to t) := by
      intro to t h1 h2; exact pe_bm PySem.F.plainAttrs_list PySem.F.slot_list_append PySem.F.type_list_append mt_append h1 h2)
    (hs : swapsWith (.Call (.Attribute (.Name x p') "append" ap) [e] [] cp) none pos.line X.env = pure false := by rfl) (hst : starEach [e] X.env = (false, eval e X.env) :: starEach [] X.env := by rfl)
    (hd : (x == ("__debug__" : Str)) = false := by decide) (hcd : (x == ("__classdict__" : Str)) = false := by decide) : VS X E O O OL (.Expr (.Call (.Attribute (.Name x p') "append" ap) [e] [] cp) pos) (sApp i m) := by
  obtain ⟨mn, t, p, f⟩ := h
  refine ⟨_, ps_expr (hpe (pe_var hN hv hd hcd) (pa_cons p pa_nil hst)) hs, fun aS A0 H0 σ H s n xq de De S L k h => ?_⟩
  obtain ⟨ds, es, h⟩ := h
  obtain ⟨a, xs, z1, z2, z3, z4⟩ := own_lst S hi es
  refine ⟨_, z1, .inl ⟨rfl, _, SqL.of z3⟩, f aS A0 H0 σ H s n xq _ S L (mn _ _ _ _ _ (fun d n' q v H' kp st r => ?_) h)⟩
  have z3' := kp _ _ z3 z2
  have z4' := z4.kp kp S.st AV.st
  exact ⟨a, xs, v, rfl, rfl, z3', by rw [z4.length]; exact lim_lt q.1, k.nx _ _ _ _ ((S.step kp st).mutL hi z1 z3' (z4'.app (RepL.cons r RepL.nil))) q.2⟩
theorem vs_extend {x : Str} {p' ap cp : Pos} (hi : i ∈ O) (hN : X.N[i]? = some x) (hv : Vis X.env.scope x) (h : VB X E O e m)
    (hpe : ∀ {to : TE} {t : TA}, PE X (.Name x p') to → PA X [e] t → PE X (.Call (.Attribute (.Name x p') "extend" ap) [e] [] cp) (tBM X.K "list" rExtend to t) := by
      intro to t h1 h2; exact pe_bm PySem.F.plainAttrs_list PySem.F.slot_list_extend PySem.F.type_list_extend mt_extend h1 h2)
    (hs : swapsWith (.Call (.Attribute (.Name x p') "extend" ap) [e] [] cp) none pos.line X.env = pure false := by rfl) (hst : starEach [e] X.env = (false, eval e X.env) :: starEach [] X.env := by rfl)
    (hd : (x == ("__debug__" : Str)) = false := by decide) (hcd : (x == ("__classdict__" : Str)) = false := by decide) : VS X E O O OL (.Expr (.Call (.Attribute (.Name x p') "extend" ap) [e] [] cp) pos) (sExt i m) := by
  obtain ⟨mn, t, p, f⟩ := h
  refine ⟨_, ps_expr (hpe (pe_var hN hv hd hcd) (pa_cons p pa_nil hst)) hs, fun aS A0 H0 σ H s n xq de De S L k h => ?_⟩
  obtain ⟨ds, es, h⟩ := h
  obtain ⟨a, xs, z1, z2, z3, z4⟩ := own_lst S hi es
  refine ⟨_, z1, .inl ⟨rfl, _, SqL.of z3⟩, f aS A0 H0 σ H s n xq _ S L (mn _ _ _ _ _ (fun d n' q v H' kp st r => ?_) h)⟩
  obtain ⟨es', ed, hl, q⟩ := q
  subst ed
  obtain ⟨b, ys, e2, y1, y2, y3⟩ := repB_lst r
  subst e2
  have z3' := kp _ _ z3 z2
  have z4' := z4.kp kp S.st AV.st
  exact ⟨a, b, xs, ys, rfl, rfl, z3', y2, by rw [z4.length, y3.length]; exact lim_line hl, k.nx _ _ _ _ ((S.step kp st).mutL hi z1 z3' (z4'.app y3)) q⟩
theorem vs_insert {x : Str} {e2 : Expr} {p' ap cp : Pos} (hi : i ∈ O) (hN : X.N[i]? = some x) (hv : Vis X.env.scope x) (h : VA Rep X E O [e, e2] ml)
    (hpe : ∀ {to : TE} {t : TA}, PE X (.Name x p') to → PA X [e, e2] t → ∃ r, PE X (.Call (.Attribute (.Name x p') "insert" ap) [e, e2] [] cp) (tBM X.K "list" r to t) ∧ ∀ v vs H Q, (∃ l xs i y, v = V.ref l ∧ vs = [V.int i, y] ∧ H l = some (HO.lst xs) ∧ xs.length < sizeLine ∧ 0 ≤ i ∧ i < 2 ^ 63 ∧ Q V.non (upd H l (HO.lst (List.take i.toNat xs ++ [y] ++ List.drop i.toNat xs)))) → r v vs H Q := by
      intro to t h1 h2; exact ⟨_, pe_bm PySem.F.plainAttrs_list PySem.F.slot_list_insert PySem.F.type_list_insert mt_insert h1 h2, fun _ _ _ _ h => h⟩)
    (hs : swapsWith (.Call (.Attribute (.Name x p') "insert" ap) [e, e2] [] cp) none pos.line X.env = pure false := by rfl)
    (hd : (x == ("__debug__" : Str)) = false := by decide) (hcd : (x == ("__classdict__" : Str)) = false := by decide) : VS X E O O OL (.Expr (.Call (.Attribute (.Name x p') "insert" ap) [e, e2] [] cp) pos) (sIns i ml) := by
  obtain ⟨mn, t, p, f⟩ := h
  obtain ⟨r, pe, hr⟩ := hpe (pe_var hN hv hd hcd) p
  refine ⟨_, ps_expr pe hs, fun aS A0 H0 σ H s n xq de De S L k h => ?_⟩
  obtain ⟨ds, es, h⟩ := h
  obtain ⟨a, xs, z1, z2, z3, z4⟩ := own_lst S hi es
  refine ⟨_, z1, .inl ⟨rfl, _, SqL.of z3⟩, f aS A0 H0 σ H s n xq _ S L (mn _ _ _ _ _ (fun d n' q v H' kp st r => ?_) h)⟩
  obtain ⟨j, d, ed, hl, hj, q⟩ := q
  subst ed
  obtain ⟨v1, v2, ev, r1, r2⟩ := rl_two r
  simp only [Rep] at r1
  subst ev r1
  have z3' := kp _ _ z3 z2
  have z4' := z4.kp kp S.st AV.st
  refine hr _ _ _ _ ⟨a, xs, j, v2, rfl, rfl, z3', by rw [z4.length]; exact lim_lt hl, by omega, by unfold LIM at hj; omega, ?_⟩
  rw [Int.toNat_natCast]
  exact k.nx _ _ _ _ ((S.step kp st).mutL hi z1 z3' (((z4'.take j).app (RepL.cons r2 RepL.nil)).app (z4'.drop j))) q
/-- y = xs.pop(e), xs owned -/
def sPopAt (i j : Nat) (m : EM D) : SM := fun xq de s n => ∃ ds, s[i]? = some (some (.lst ds)) ∧ m xq s n fun d n' => ∃ (k : Nat) (x : D), d = .int k ∧ ds[k]? = some x ∧ de.nx ((s.set i (some (.lst (ds.eraseIdx k)))).set j (some x)) n'
/-- f.append(xs.pop(e)), both owned -/
def sAppPop (j i : Nat) (m : EM D) : SM := fun xq de s n => ∃ fs ds, s[j]? = some (some (.lst fs)) ∧ s[i]? = some (some (.lst ds)) ∧ m xq s n fun d n' => ∃ (k : Nat) (x : D), d = .int k ∧ ds[k]? = some x ∧ ds.length ≤ LIM ∧ fs.length < LIM ∧ de.nx ((s.set i (some (.lst (ds.eraseIdx k)))).set j (some (.lst (fs ++ [x])))) n'
end
end DL
namespace DL
open PySem L2
open PySem.Spec
open PyProof.Rows
/-! enumerate of a tuple: the kit has the list alone -/
abbrev enumO (src : Addr) : Obj := { cls := .type "enumerate", data := .fields #[.none, .bool false, .ref src, rawInt 0, .none, .none] }
/-- enumerate.__new__ over whatever begins a walk -/
theorem new_enum {v : Value} {o : Obj} {C : Heap → Prop} (B : Begins v o C) :
    Meets (Builtin.«enumerate.__new__» ⟨[.type "enumerate", v], []⟩) (fun _ R s => C s.heap ∧ R (.ok (.ret (.ref (s.heap.push o).objs.size))) { s with heap := (s.heap.push o).push (enumO s.heap.objs.size) }) := by
  refine Meets.of_wp fun prog w A R s ⟨hC, hR⟩ => ?_
  cases s with
  | mk hp gs dd tk os =>
    have isub := sub_enumerate
    have start : ∀ {A' : Around} {E Q : Value → Shared → Prop}, Q (.ref hp.objs.size) ⟨hp.push o, gs, dd, tk, os⟩ → wpAny (model prog w) A' (pyIter v) Q E ⟨hp, gs, dd, tk, os⟩ := fun {A' E Q} q => B.iter prog w A' E ⟨hp, gs, dd, tk, os⟩ Q hC q
    wp_walk using start
    refine wpAny_stack_any fun _ => ?_
    refine wpAny_pure ?_
    split
    · next c _ _ _ _ _ =>
      generalize (c == Value.type "enumerate") = same
      cases same
      all_goals
        wp_walk using start
        exact ⟨_, rfl, hR⟩
    · wp_walk using start
      exact ⟨_, rfl, hR⟩
/-- the pair e over the tuple iterator t of the tuple a, i items told -/
structure EnT (e t a : Addr) (i : Nat) (h : Heap) : Prop where
  ne : e ≠ t
  src : h.IsTupleIter t a i
  enum : ∃ old, IsEnum h e t (i : Int) old
theorem EnT.moved {e t a : Addr} {i : Nat} {h h' : Heap} (z : EnT e t a i h) (k : ∀ b ∈ [e, t], ∀ o, h.get? b = some o → h'.get? b = some o) : EnT e t a i h' := by
  obtain ⟨old, q⟩ := z.enum
  exact ⟨z.ne, z.src.at (k t (by simp)), old, k e (by simp) _ q⟩
/-- enumerate(a tuple): iterator and pair are laid, all else stays -/
theorem made_enum {prog : Program} {w : World} {A : Around} {E Q : Value → Shared → Prop} {s : Shared} {a : Addr} {items : Array Value} (tp : s.heap.IsTuple a items)
    (fin : ∀ h', EnT (s.heap.objs.size + 1) s.heap.objs.size a 0 h' → (∀ b o, s.heap.get? b = some o → h'.get? b = some o) → Q (.ref (s.heap.objs.size + 1)) { s with heap := h' }) : wpAny (model prog w) A (call (.type "enumerate") [.ref a]) Q E s := by
  have B := begins_tuple a items
  refine callType_new F.called_enumerate (by decide) (F.typeCall_enumerate_1 _) (F.newCall_enumerate_1 _) (fun self => F.args_object_init_2 self _) F.entry_enumerate_new (new_enum B) ⟨tp, ?_⟩
  have size1 : ∀ o : Obj, (s.heap.push o).objs.size = s.heap.objs.size + 1 := fun o => Heap.size_push ..
  have top := fun o : Obj => Heap.get?_push_size (s.heap.push o) (o := enumO s.heap.objs.size) rfl
  show _ ∧ _
  rw [size1]
  have top' := top { cls := .type "tuple_iterator", data := .fields #[.ref a, .int 0 0] }
  rw [size1] at top'
  refine ⟨⟨_, top', rfl⟩, fin _ ⟨Nat.succ_ne_self _, ⟨_, Heap.get?_push_of_some _ (Heap.get?_push_size _ B.free), rfl, rfl⟩, .none, top'⟩ fun b o q => Heap.get?_push_of_some _ (Heap.get?_push_of_some _ q)⟩
/-- the tuple at a, each item beside its place in a new pair -/
def ItET (K : PySem.W.Frag) (a : Addr) : It where
  go i H := ∃ xs : List V, SqT K H a xs ∧ i < xs.length
  yld i H v H' := ∃ q x, H q = none ∧ v = .ref q ∧ H' = upd H q (.tup [.int (i : Nat), x]) ∧ ∀ xs, SqT K H a xs → xs[i]? = some x
  stop i H := ∃ xs : List V, SqT K H a xs ∧ xs.length = i
section
variable {P : Program} {w : World} {K : PySem.W.Frag} {elts : List Expr} {kk : Nat} {tpos : Pos} {a e t : Addr}
theorem turn_enumT (nae : a ≠ e) (nat : a ≠ t) : Turn P w K (.Tuple elts kk tpos) (ItET K a) [e, t] e (EnT e t a) where
  mem := List.mem_cons_self
  keep := fun _ _ _ z k => z.moved k
  self := fun _ _ _ _ _ z q => Exists.elim z.enum fun _ en => wpAny_pyIter_enum en q
  obj := fun i h z b hb => by
    obtain ⟨_, en⟩ := z.enum
    obtain ⟨ob, at_, _, dat⟩ := z.src
    have two : b = e ∨ b = t := by simpa using hb
    refine two.elim (fun y => ?_) fun y => ?_ <;> subst y
    · exact ⟨_, en, fun _ y => nomatch y⟩
    · exact ⟨ob, at_, fun _ y => by rw [dat] at y; cases y⟩
  done := fun X eP ew eK calm i pins s σ H E inv foot z ⟨xs, sq, len⟩ => by
    subst eP ew eK
    obtain ⟨its, vals, isT, _⟩ := inv.tuple sq
    obtain ⟨_, en⟩ := z.enum
    have sz : its.toArray.size = i := by rw [List.size_toArray, ← vals.length, len]
    have dr := Draws.tuple (prog := X.prog) (w := X.w) (A := X.A.in1) (show X.A.in1.handled = none from inv.ok.hd calm) t a nat its.toArray
    have ft := foot t (by simp)
    exact wpAny_pyNext_enum_endD dr en (by rw [sz]; exact ⟨z.src, isT⟩) fun h' same => ⟨rfl, inv.turned (t' := s.toks) same ft.1 ft.2.1 ft.2.2.2.1 ft.2.2.2.2.1 ft.2.2.2.2.2⟩
  item := fun X eP ew eK calm i pins s σ H E inv foot z ⟨xs, sq, lt⟩ => by
    subst eP ew eK
    obtain ⟨its, vals, isT, _⟩ := inv.tuple sq
    obtain ⟨old, en⟩ := z.enum
    obtain ⟨u, at_u, rel⟩ := vals.get (List.getElem?_eq_getElem lt)
    have elow : e < s.heap.objs.size := Heap.lt_size en
    have tlow : t < s.heap.objs.size := let ⟨_, y, _⟩ := z.src; Heap.lt_size y
    have dr := Draws.tuple (prog := X.prog) (w := X.w) (A := X.A.in1) (show X.A.in1.handled = none from inv.ok.hd calm) t a nat its.toArray
    refine wpAny_pyNext_enum_itemC dr en ⟨z.src, isT⟩ (by rw [List.size_toArray, ← vals.length]; exact lt) z.ne (by simp; exact ⟨z.ne, Ne.symm nae⟩) fun y h' tk drawn owned src' pair _ rest => ?_
    obtain rfl : u = y := Option.some.inj (at_u.symm.trans (by simpa using drawn))
    refine ⟨_, rfl, wpAny_letOwnedTupleGo_enum (s := { s with heap := h', toks := tk + 1 }) owned fun h'' en' but => ?_⟩
    have pair' := (but.2 _ (Nat.ne_of_gt elow)).trans pair
    have others : ∀ b ob, b ∉ [e, t] → s.heap.get? b = some ob → h''.get? b = some ob := fun b ob nb q => (but.2 b fun y => nb (y ▸ List.mem_cons_self)).trans (rest b ob (fun y => nb (y ▸ List.mem_cons_self)) (fun y => nb (by simp [y])) q)
    have laid : ObjOk X.prog X.w (upd H s.heap.objs.size (.tup [.int (i : Nat), xs[i]])) h'' s.heap.objs.size (.tup [.int (i : Nat), xs[i]]) := ⟨by show 2 ≤ sizeLine; decide, _, .cons ⟨tk, rfl⟩ (.cons rel .nil), _, pair', rfl, _, rfl⟩
    refine ⟨.ref s.heap.objs.size, _, inv.turnedNew (t' := tk + 1) others foot (Nat.le_refl _) laid, rfl, ⟨_, xs[i], inv.hok.fresh (Nat.le_refl _), rfl, rfl, fun zs sq' => ?_⟩, ⟨z.ne, src'.1.at fun o q => (but.2 t (Ne.symm z.ne)).trans q, u, ?_⟩, fun b hb => ?_⟩
    · rw [inv.tuple_inj sq' sq]
      exact List.getElem?_eq_getElem lt
    · rw [Int.natCast_succ]
      exact en'
    · have low : b < s.heap.objs.size := (List.mem_cons.mp hb).elim (fun y => y ▸ elow) fun y => List.mem_singleton.mp y ▸ tlow
      rw [upd_ne (Nat.ne_of_lt low)]
      exact (foot b hb).1
theorem walk_enumT {xs : List V} : Walk (ItET K a) xs.length (fun H => SqT K H a xs) (YPair (fun i => some (.int (i : Nat))) (fun i => xs[i]?)) where
  goes := fun _ _ lt sq => ⟨xs, sq, lt⟩
  stops := fun _ sq => ⟨xs, sq, rfl⟩
  yields := fun i _ _ _ _ sq ⟨q, x, new, ev, eH, tells⟩ => ⟨q, .int (i : Nat), x, ev, new, eH, rfl, tells xs sq⟩
end
/-- a list or a tuple, enumerated -/
def iEnumA (K : PySem.W.Frag) (ta : TA) : TI := fun σ H R => ta σ H fun vs H1 => ∃ a xs, vs = [.ref a] ∧ ((SqL K H1 a xs ∧ R (Ite K a) H1) ∨ (SqT K H1 a xs ∧ R (ItET K a) H1))
section
variable {X : Cx} {elts : List Expr} {kk : Nat} {tpos : Pos} {pins : List (Addr × Obj)} {σ : L2.St} {H : Hp} {s : Shared} {R : It → Hp → Prop} {a : Addr} {xs : List V}
/-- two new objects are nobody's -/
theorem new_foot (inv : Inv X pins σ H s) : ∀ b ∈ [s.heap.objs.size + 1, s.heap.objs.size], FpOk X pins H b := fun b hb => by
  have up : s.heap.objs.size ≤ b := (List.mem_cons.mp hb).elim (fun y => y ▸ Nat.le_succ _) fun y => Nat.le_of_eq (List.mem_singleton.mp y).symm
  exact inv.fpOk up (inv.hok.fresh up)
theorem enum_made (inv : Inv X pins σ H s) (q : (SqL X.K H a xs ∧ R (Ite X.K a) H) ∨ (SqT X.K H a xs ∧ R (ItET X.K a) H)) :
    wpAny (model X.prog X.w) X.A (call (.type "enumerate") [.ref a]) (fun v s1 => wpAny (model X.prog X.w) X.A (pyIter v) (PIE X pins σ (.Tuple elts kk tpos) R) X.xe s1) X.xe s := by
  cases q with
  | inl q =>
    obtain ⟨_, _, li, _⟩ := inv.list q.1
    exact call_enumerate_list li.isList fun h' en it _ same => wpAny_pyIter_enum en ⟨_, _, _, _, H, rfl, inv.kept (t' := s.toks) same, turn_enum a _ _, ⟨⟨.none, en⟩, it, Nat.succ_ne_self _⟩, new_foot inv, q.2⟩
  | inr q =>
    obtain ⟨_, _, tp, _⟩ := inv.tuple q.1
    have low : a < s.heap.objs.size := let ⟨_, y, _⟩ := tp; Heap.lt_size y
    exact made_enum tp fun h' z same => Exists.elim z.enum fun _ en => wpAny_pyIter_enum en ⟨_, _, _, _, H, rfl, inv.kept (t' := s.toks) same, turn_enumT (Nat.ne_of_lt (Nat.lt_succ_of_lt low)) (Nat.ne_of_lt low), z, new_foot inv, q.2⟩
theorem pi_enumA {e : Expr} {ta : TA} {p pos : Pos} (hg : Gl X "enumerate") (hm : X.mg "enumerate" = none) (ha : PA X [e] ta) (hs : starEach [e] X.env = [(false, eval e X.env)] := by rfl) :
    PI X (.Tuple elts kk tpos) (.Call (.Name "enumerate" p) [e] [] pos) (iEnumA X.K ta) where
  run pins s σ H R inv h := Call_ (ld_blt inv hg hm boot_enumerate (callWith_type1 (thn (ha.run pos pins s σ H _ inv h) fun us s1 ⟨vs, H1, inv1, rel, a, xs, ev, q⟩ => by
    subst ev
    obtain ⟨u, eu, ru⟩ := vals1 rel
    subst eu
    cases ru
    exact enum_made inv1 q) hs rfl))
end
end DL
namespace DL
open PySem PySem.Spec PyProof.Rows L2
/-! ### what is walked -/
def Far (aS : Addr) (A0 : AS) (Hb : Hp) (A : AS) : Prop := A aS ∧ ∀ b, A b → A0 b ∨ b = aS ∨ Hb b = none
def ItOk (K : PySem.W.Frag) (aS : Addr) (A0 : AS) (ds : List D) (J : It) (Hb : Hp) : Prop := ∃ (G : Hp → Prop) (Y : Nat → Hp → V → Hp → Prop), Walk J ds.length G Y ∧ (∀ H1, KpS aS Hb H1 → G H1) ∧
  ∀ (i : Nat) (H1 : Hp) (x : V) (H2 : Hp) (n : Nat) (A : AS), i < ds.length → KpS aS Hb H1 → StA K aS H1 n → Far aS A0 Hb A → Y i H1 x H2 → (∀ b u, H1 b = some u → H2 b = some u) ∧ ∃ d, ds[i]? = some d ∧ Rep K aS H2 A d x
def hideL (s : Ev) : List Nat → Ev
  | [] => s
  | v :: vs => (hideL s vs).set v none
def VI (X : Cx) (E : XK) (O OB hid : List Nat) (tg iter : Expr) (m : EM (List D)) : Prop := Mn m ∧ ∃ wi, PI X tg iter wi ∧ ∀ (aS : Addr) (A0 : A0T) (H0 : Hp) (σ : L2.St) (H : Hp) (s : Ev) (n : Nat) (xq : XQ) (R : It → Hp → Prop), SR X.K aS O A0 H0 σ H s n → LX X.K E aS A0 H0 xq →
  m xq s n (fun ds n' => ∀ J H' (A1 : A0T), KpS aS H H' → StA X.K aS H' n' → AV aS A1 OB σ = AV aS A0 O σ → SR X.K aS OB A1 H0 σ H' (hideL s hid) n' → ItOk X.K aS A1 ds J (bare OB σ H') → R J H') → wi σ H R
/-- .. in a statement -/
def VIs (X : Cx) (E : XK) (O : List Nat) (tg iter : Expr) (m : EM (List D)) : Prop := Mn m ∧ ∃ wi, PI X tg iter wi ∧ ∀ (aS : Addr) (A0 : A0T) (H0 : Hp) (σ : L2.St) (H : Hp) (s : Ev) (n : Nat) (xq : XQ) (R : It → Hp → Prop), SR X.K aS O A0 H0 σ H s n → LX X.K E aS A0 H0 xq →
  m xq s n (fun ds n' => ∀ J H', KpS aS H H' → StA X.K aS H' n' → ItOk X.K aS A0 ds J (bare O σ H') → R J H') → wi σ H R
theorem VIs.vi {X : Cx} {E : XK} {O : List Nat} {tg iter : Expr} {m : EM (List D)} (h : VIs X E O tg iter m) : VI X E O O [] tg iter m := by
  obtain ⟨mn, wi, p, f⟩ := h
  exact ⟨mn, wi, p, fun aS A0 H0 σ H s n xq R S L hm => f aS A0 H0 σ H s n xq R S L (mn _ _ _ _ _ (fun ds n' q J H' kp st it => q J H' A0 kp st rfl (S.step kp st) it) hm)⟩
section
variable {K : PySem.W.Frag} {aS a : Addr} {H H' H0 H1 Hb : Hp} {A : AS} {A0 : A0T} {O OB : List Nat} {σ : L2.St} {s : Ev} {n : Nat}
theorem KpS.all (k : ∀ b u, H b = some u → H' b = some u) : KpS aS H H' := fun b u e _ => k b u e
/-- what does not meet what slots own stands on the base -/
theorem SR.onBase (S : SR K aS O A0 H0 σ H s n) (h1 : KpS aS (bare O σ H) H1) (hF : Far aS A0 (bare O σ H) A) : Sub K H H1 (AV aS A0 O σ) A := by
  have nb : ∀ b, ¬ AV aS A0 O σ b → bare O σ H b = H b := fun b h => bare_not fun z => h (.inr (.inr z))
  have ne : ∀ b, ¬ AV aS A0 O σ b → b ≠ aS := fun b h z => h (.inr (.inl z))
  have nA : ∀ b u, ¬ AV aS A0 O σ b → H b = some u → ¬ A b := fun b u h q z => by
    rcases hF.2 b z with z | z | z
    · exact h (.inl z)
    · exact h (.inr (.inl z))
    · rw [nb b h, q] at z
      cases z
  have up : ∀ b u, ¬ AV aS A0 O σ b → H b = some u → H1 b = some u := fun b u h q => h1 b u ((nb b h).trans q) (ne b h)
  refine ⟨fun b xs h q => ⟨nA _ _ h q, up _ _ h q⟩, fun b xs q => q.elim (fun q => .inl (h1 b _ ?_ fun z => ?_)) .inr, fun b ys h q => ?_, fun b C dx ys h q => ⟨nA _ _ h q, up _ _ h q⟩⟩
  · rw [bare_not]
    · exact q
    · rintro ⟨j, hj, e⟩
      obtain ⟨d, b', e1, e2, e3, e4, e5, e6⟩ := S.ow j hj
      rw [e] at e2
      cases e2
      cases d with
      | lst ds => obtain ⟨xs, e, _⟩ := e6; rw [q] at e; cases e
      | dic ds => obtain ⟨xs, e, _⟩ := e6; rw [q] at e; cases e
      | obj C ds => obtain ⟨dx, xs, e, _⟩ := e6; rw [q] at e; cases e
      | _ => exact e6.elim
  · obtain ⟨ys, e⟩ := S.st.lst
    rw [z, e] at q
    cases q
  · rcases q with q | ⟨z, q⟩
    · exact ⟨nA _ _ h q, .inl (up _ _ h q)⟩
    · exact ⟨nA _ _ h q, .inr ⟨z, up _ _ h q⟩⟩
theorem SR.far (S : SR K aS O A0 H0 σ H s n) : Far aS A0 (bare O σ H) (fun b => A0 b ∨ b = aS) := ⟨.inr rfl, fun b z => z.elim .inl fun z => .inr (.inl z)⟩
theorem SR.onT (S : SR K aS O A0 H0 σ H s n) (h1 : KpS aS (bare O σ H) H1) {xs : List V} (h : TpA K H a xs) : TpA K H1 a xs := (S.onBase h1 S.far).t _ _ h
theorem it_yat {K : PySem.W.Frag} {aS : Addr} {A0 : AS} {ds : List D} {xs : List V} {Hb : Hp} {J : It} {G : Hp → Prop} (w : Walk J xs.length G (YAt xs)) (hl : xs.length = ds.length) (hG : ∀ H1, KpS aS Hb H1 → G H1)
    (hr : ∀ H1 A, KpS aS Hb H1 → Far aS A0 Hb A → RepL K aS H1 A ds xs) : ItOk K aS A0 ds J Hb := by
  refine ⟨G, YAt xs, hl ▸ w, hG, fun i H1 x H2 n A hi k st hF y => ?_⟩
  obtain ⟨e, ex⟩ := y
  subst e
  exact ⟨fun _ _ q => q, RepL.get' (hr _ A k hF) ex⟩
theorem SR.itL (S : SR K aS O A0 H0 σ H s n) {ds : List D} {xs : List V} (ha : ¬ AV aS A0 O σ a) (h : H a = some (.lst xs)) (r : RepL K aS H (AV aS A0 O σ) ds xs) : ItOk K aS A0 ds (Itl K a) (bare O σ H) :=
  it_yat walk_list r.length (fun H1 k => SqL.of (k a _ ((bare_not fun z => ha (.inr (.inr z))).trans h) fun z => ha (.inr (.inl z)))) fun H1 A k hF => RepL.mono (S.onBase k hF) _ _ r
theorem SR.itT (S : SR K aS O A0 H0 σ H s n) {ds : List D} {xs : List V} (h : TpA K H a xs) (r : RepL K aS H (AV aS A0 O σ) ds xs) : ItOk K aS A0 ds (Itt K a) (bare O σ H) :=
  it_yat walk_tup r.length (fun H1 k => (S.onT k h).sq) fun H1 A k hF => RepL.mono (S.onBase k hF) _ _ r
end
def signs (x : Str) : List D := x.cps.toList.map fun c => .str ⟨#[c]⟩
def dIter : D → Option (List D)
  | .lst xs => some xs
  | .tup xs => some xs
  | .str x => some (signs x)
  | _ => none
def eIter (m : EM D) : EM (List D) := fun xq s n Q => m xq s n fun d n' => ∃ ds, dIter d = some ds ∧ Q ds n'
section
variable {X : Cx} {E : XK} {O OB OL : List Nat} {e tg : Expr} {m : EM D} {pos : Pos}
def IterV (K : PySem.W.Frag) (x : V) (H : Hp) (R : It → Hp → Prop) : Prop := (∃ a xs, x = .ref a ∧ H a = some (.lst xs) ∧ R (Itl K a) H) ∨ (∃ a xs, x = .ref a ∧ TpA K H a xs ∧ R (Itt K a) H) ∨ ∃ z, x = .str z ∧ R (Its z) H
theorem pi_dyn {te : TE} (he : PE X e te) : PI X tg e (fun σ H R => te σ H fun x H1 => IterV X.K x H1 R) := by
  refine ⟨fun pins s σ H R I h => thn (he.run pins s σ H _ I h) fun v s1 ⟨x, H1, I1, r1, q1⟩ => ?_⟩
  rcases q1 with ⟨a, xs, ex, hq, q⟩ | ⟨a, xs, ex, hq, q⟩ | ⟨z, ex, q⟩
  · subst ex
    cases r1
    obtain ⟨its, rv, p, hz⟩ := I1.list (SqL.of hq)
    exact wpAny_pyIter_list p.isList (pi_one (tk := s1.toks) I1 _ (turn_list a _) ⟨_, Heap.get?_push_size _ rfl, rfl, rfl⟩ q)
  · subst ex
    cases r1
    obtain ⟨its, rv, p, hz⟩ := I1.tuple hq.sq
    exact wpAny_pyIter_tuple (show s1.heap.IsTuple a its.toArray from p) (pi_one (tk := s1.toks) I1 _ (turn_tuple a _) ⟨_, Heap.get?_push_size _ rfl, rfl, rfl⟩ q)
  · subst ex
    obtain ⟨t, rfl⟩ := r1
    cases ha : z.cps.all (· < 128)
    · exact wpAny_pyIter_wide ha (pi_one (tk := s1.toks) I1 _ (turn_str _ z t _ (.inr rfl)) ⟨_, Heap.get?_push_size _ rfl, rfl, rfl⟩ q)
    · exact wpAny_pyIter_ascii ha (pi_one (tk := s1.toks) I1 _ (turn_str _ z t _ (.inl rfl)) ⟨_, Heap.get?_push_size _ rfl, rfl, rfl⟩ q)
theorem it_str {K : PySem.W.Frag} {aS : Addr} {A0 : AS} {z : Str} {Hb : Hp} : ItOk K aS A0 (signs z) (Its z) Hb := by
  have hl : (signs z).length = z.cps.size := by simp [signs]
  refine ⟨fun _ => True, _, hl ▸ walk_str, fun _ _ => trivial, fun i H1 x H2 n A hi k st hF y => ?_⟩
  obtain ⟨e, c, hc, ex⟩ := y
  subst e ex
  refine ⟨fun _ _ q => q, .str ⟨#[c]⟩, ?_, rep_str⟩
  unfold signs
  rw [List.getElem?_map, Array.getElem?_toList, hc]
  rfl
theorem mn_iter (h : Mn m) : Mn (eIter m) := fun xq s n Q Q' hq w => h _ _ _ _ _ (fun d n' ⟨ds, e, q⟩ => ⟨ds, e, hq _ _ q⟩) w
theorem vi_seq (h : VE X E O e m) : VIs X E O tg e (eIter m) := by
  obtain ⟨mn, t, p, f⟩ := h
  refine ⟨mn_iter mn, _, pi_dyn p, fun aS A0 H0 σ H s n xq R S L hm => f aS A0 H0 σ H s n xq _ S L (mn _ _ _ _ _ (fun d n' q v H' kp st r => ?_) hm)⟩
  obtain ⟨ds, e, q⟩ := q
  have S' := S.step kp st
  have q := fun J => q J H' kp st
  unfold dIter at e
  split at e
  · cases e
    rw [Rep] at r
    obtain ⟨a, xs, ev, ha, hq, rl⟩ := r
    exact .inl ⟨a, xs, ev, hq, q _ (S'.itL ha hq rl)⟩
  · cases e
    rw [Rep] at r
    obtain ⟨a, xs, ev, hq, rl⟩ := r
    exact .inr (.inl ⟨a, xs, ev, hq, q _ (S'.itT hq rl)⟩)
  · cases e
    rw [Rep] at r
    exact .inr (.inr ⟨_, r, q _ it_str⟩)
  · cases e
/-- over a list that a slot owns: it is hidden meanwhile -/
theorem vi_own {x : Str} {i : Nat} (hi : i ∈ O) (hN : X.N[i]? = some x) (hv : Vis X.env.scope x) (hd : (x == ("__debug__" : Str)) = false := by decide) (hcd : (x == ("__classdict__" : Str)) = false := by decide) :
    VI X E O (O.filter (· != i)) [i] tg (.Name x pos) (fun xq s n Q => ∃ ds, s[i]? = some (some (.lst ds)) ∧ Q ds n) := by
  refine ⟨fun xq s n Q Q' hq ⟨ds, e, q⟩ => ⟨ds, e, hq _ _ q⟩, _, pi_dyn (pe_var hN hv hd hcd), fun aS A0 H0 σ H s n xq R S L hm => ?_⟩
  obtain ⟨ds, e, q⟩ := hm
  obtain ⟨d, a, e1, e2, e3, e4, e5, e6⟩ := S.ow i hi
  rw [e] at e1
  cases e1
  obtain ⟨xs, ha, rl⟩ := e6
  have mem : ∀ j, j ∈ O.filter (· != i) ↔ j ∈ O ∧ j ≠ i := fun j => by simp [List.mem_filter]
  have eA : AV aS (⟨fun b => A0 b ∨ b = a, A0.z⟩ : A0T) (O.filter (· != i)) σ = AV aS A0 O σ := by
    funext b
    refine propext ⟨fun z => ?_, fun z => ?_⟩
    · rcases z with (z | z) | z | ⟨j, hj, ej⟩
      · exact .inl z
      · exact .inr (.inr ⟨i, hi, z ▸ e2⟩)
      · exact .inr (.inl z)
      · exact .inr (.inr ⟨j, ((mem j).mp hj).1, ej⟩)
    · rcases z with z | z | ⟨j, hj, ej⟩
      · exact .inl (.inl z)
      · exact .inr (.inl z)
      · by_cases hji : j = i
        · subst hji
          rw [e2] at ej
          cases ej
          exact .inl (.inr rfl)
        · exact .inr (.inr ⟨j, (mem j).mpr ⟨hj, hji⟩, ej⟩)
  have nin : i ∉ O.filter (· != i) := fun z => ((mem i).mp z).2 rfl
  have S1 : SR X.K aS (O.filter (· != i)) ⟨fun b => A0 b ∨ b = a, A0.z⟩ H0 σ H (s.set i none) n := by
    refine ⟨by rw [List.length_set]; exact S.len, fun j d' ej hj => ?_, fun j hj => ?_, fun j l b hj hl => S.ds j l b ((mem j).mp hj).1 ((mem l).mp hl).1, S.fr, S.st, fun b hb => ?_, fun z => S.pn ((mem 0).mp z).1⟩
    · rw [eA]
      by_cases hji : j = i
      · subst hji
        have hl : j < s.length := (List.getElem?_eq_some_iff.mp e).1
        rw [List.getElem?_set_self hl] at ej
        cases ej
      · rw [set_other hji] at ej
        exact S.sh j d' ej fun z => hj ((mem j).mpr ⟨z, hji⟩)
    · rw [eA]
      have hj' := (mem j).mp hj
      rw [set_other hj'.2]
      obtain ⟨d', b, q1, q2, q3, q4, q5, q6⟩ := S.ow j hj'.1
      exact ⟨d', b, q1, q2, q3, fun z => z.elim q4 fun z => hj'.2 (S.ds j i a hj'.1 hi (z ▸ q2) e2), q5, q6⟩
    · rcases hb with hb | hb
      · exact S.av b hb
      · exact ⟨_, hb ▸ ha⟩
  refine ⟨.ref a, e2, .inl ⟨a, xs, rfl, ha, q _ H ⟨fun b => A0 b ∨ b = a, A0.z⟩ KpS.refl S.st eA S1 ?_⟩⟩
  have hb : bare (O.filter (· != i)) σ H a = some (.lst xs) := by
    rw [bare_not]
    · exact ha
    · rintro ⟨j, hj, ej⟩
      exact ((mem j).mp hj).2 (S.ds j i a ((mem j).mp hj).1 hi ej e2)
  refine it_yat walk_list rl.length (fun H1 k => SqL.of (k a _ hb e5)) fun H1 A k hF => RepL.mono (S1.onBase k hF) _ _ ?_
  rw [eA]
  exact rl
/-! ranges -/
def eRange1 (m : EM D) : EM (List D) := fun xq s n Q => m xq s n fun d n' => ∃ j : Int, d = .int j ∧ j ≤ LIM ∧ -(2 ^ 62) ≤ j ∧ Q ((List.range j.toNat).map fun i => .int (i : Nat)) n'
def eRange2 (a b : EM D) : EM (List D) := fun xq s n Q => a xq s n fun x n1 => b xq s n1 fun y n2 => ∃ i j : Int, x = .int i ∧ y = .int j ∧ (-(2 ^ 62) ≤ i ∧ i < 2 ^ 62 ∧ -(2 ^ 62) ≤ j ∧ j < 2 ^ 62) ∧ Q ((List.range (j - i).toNat).map fun k => .int (i + (k : Nat))) n2
theorem it_range {K : PySem.W.Frag} {aS : Addr} {A0 : AS} {lo : Int} {k : Nat} {Hb : Hp} {f : Nat → D} (hf : ∀ i, f i = .int (lo + (i : Nat))) : ItOk K aS A0 ((List.range k).map f) (Itr lo k) Hb := by
  have hl : ((List.range k).map f).length = k := by simp
  refine ⟨fun _ => True, _, (by rw [hl]; exact walk_range (lo := lo) (n := k)), fun _ _ => trivial, fun i H1 x H2 n A hi kp st hF y => ?_⟩
  obtain ⟨e, ex⟩ := y
  subst e ex
  refine ⟨fun _ _ q => q, .int (lo + (i : Nat)), ?_, rep_int⟩
  rw [List.getElem?_map, List.getElem?_range (by simpa using hi)]
  exact congrArg some (hf i)
theorem vi_range1 {a : Expr} {p : Pos} (hg : Gl X "range") (hm : X.mg "range" = none) (h : VB X E O a m) (hs : starEach [a] X.env = [(false, eval a X.env)] := by rfl) (hs' : starEach [a] X.env = (false, eval a X.env) :: starEach [] X.env := by rfl) : VIs X E O tg (.Call (.Name "range" p) [a] [] pos) (eRange1 m) := by
  obtain ⟨mn, t, pe, f⟩ := h
  refine ⟨fun xq s n Q Q' hq w => mn _ _ _ _ _ (fun d n' ⟨j, e1, e2, e3, q⟩ => ⟨j, e1, e2, e3, hq _ _ q⟩) w, _, pi_range1 hg hm (pa_cons pe pa_nil hs') hs, fun aS A0 H0 σ H s n xq R S L hm => f aS A0 H0 σ H s n xq _ S L (mn _ _ _ _ _ (fun d n' q v H' kp st r => ?_) hm)⟩
  obtain ⟨j, e1, e2, e3, q⟩ := q
  subst e1
  refine ⟨j, by rw [repB_int r], e3, by unfold LIM at e2; omega, q _ H' kp st (it_range fun i => by rw [Int.zero_add])⟩
theorem vi_range2 {a b : Expr} {ma mb : EM D} {p : Pos} (hg : Gl X "range") (hm : X.mg "range" = none) (ha : VB X E O a ma) (hb : VB X E O b mb) (hs : starEach [a, b] X.env = [(false, eval a X.env), (false, eval b X.env)] := by rfl) (hs2 : starEach [b] X.env = [(false, eval b X.env)] := by rfl)
    (hs' : starEach [a, b] X.env = (false, eval a X.env) :: starEach [b] X.env := by rfl) (hs'' : starEach [b] X.env = (false, eval b X.env) :: starEach [] X.env := by rfl) : VIs X E O tg (.Call (.Name "range" p) [a, b] [] pos) (eRange2 ma mb) := by
  obtain ⟨mna, ta, pa, fa⟩ := ha
  obtain ⟨mnb, tb, pb, fb⟩ := hb
  refine ⟨fun xq s n Q Q' hq w => mna _ _ _ _ _ (fun d n' w => mnb _ _ _ _ _ (fun d' n'' ⟨i, j, e1, e2, e3, q⟩ => ⟨i, j, e1, e2, e3, hq _ _ q⟩) w) w, _, pi_range2 hg hm (pa_cons pa (pa_cons pb pa_nil hs'') hs') hs hs2, fun aS A0 H0 σ H s n xq R S L hm => ?_⟩
  refine fa aS A0 H0 σ H s n xq _ S L (mna _ _ _ _ _ (fun d1 n1 q v1 H1 k1 st1 r1 => ?_) hm)
  refine fb aS A0 H0 σ H1 s n1 xq _ (S.step k1 st1) L (mnb _ _ _ _ _ (fun d2 n2 q2 v2 H2 k2 st2 r2 => ?_) q)
  obtain ⟨i, j, e1, e2, e3, q3⟩ := q2
  subst e1 e2
  exact ⟨i, j, by rw [repB_int r1, repB_int r2], e3, q3 _ H2 (k1.trans k2) st2 (it_range fun _ => rfl)⟩
/-! enumerate, zip -/
def pairsD : Nat → List D → List D
  | _, [] => []
  | k, d :: ds => .tup [.int (k : Nat), d] :: pairsD (k + 1) ds
theorem pairsD_length : ∀ (k : Nat) (ds : List D), (pairsD k ds).length = ds.length
  | _, [] => rfl
  | k, d :: ds => by rw [pairsD, List.length_cons, List.length_cons, pairsD_length (k + 1) ds]
theorem pairsD_get : ∀ (k i : Nat) (ds : List D) (d : D), ds[i]? = some d → (pairsD k ds)[i]? = some (.tup [.int ((k + i : Nat) : Int), d])
  | _, _, [], _, h => by simp at h
  | k, 0, d :: ds, d', h => by
    simp at h
    subst h
    rfl
  | k, i + 1, d :: ds, d', h => by
    rw [pairsD, List.getElem?_cons_succ, pairsD_get (k + 1) i ds d' (by simpa using h)]
    have e : k + 1 + i = k + (i + 1) := by omega
    rw [e]
theorem it_ypair {K : PySem.W.Frag} {aS : Addr} {A0 : AS} {ds : List D} {Hb : Hp} {J : It} {k : Nat} {G : Hp → Prop} {f g : Nat → Option V} (w : Walk J k G (YPair f g)) (hl : k = ds.length) (hG : ∀ H1, KpS aS Hb H1 → G H1)
    (hr : ∀ i H1 A x y, i < ds.length → KpS aS Hb H1 → Far aS A0 Hb A → f i = some x → g i = some y → ∃ d1 d2, ds[i]? = some (.tup [d1, d2]) ∧ Rep K aS H1 A d1 x ∧ Rep K aS H1 A d2 y) : ItOk K aS A0 ds J Hb := by
  subst hl
  refine ⟨G, _, w, hG, fun i H1 v H2 n A hi kp st hF y => ?_⟩
  obtain ⟨T, x, y, ev, hT, e2, h1, h2⟩ := y
  subst ev e2
  obtain ⟨d1, d2, e, r1, r2⟩ := hr i H1 A x y hi kp hF h1 h2
  refine ⟨fun b u q => by rw [upd_ne (ne_of_none q hT)]; exact q, _, e, rep_tup (.inl upd_same) ?_⟩
  exact RepL.kp (KpS.upd hT) st hF.1 (RepL.cons r1 (RepL.cons r2 RepL.nil))
def dSeq : D → Option (List D)
  | .lst xs => some xs
  | .tup xs => some xs
  | _ => none
def eEnum (m : EM D) : EM (List D) := fun xq s n Q => m xq s n fun d n' => ∃ ds, dSeq d = some ds ∧ Q (pairsD 0 ds) n'
theorem vi_enum {a : Expr} {p tpos : Pos} {elts : List Expr} {kk : Nat} (hg : Gl X "enumerate") (hm : X.mg "enumerate" = none) (h : VE X E O a m) (hs : starEach [a] X.env = [(false, eval a X.env)] := by rfl) (hs' : starEach [a] X.env = (false, eval a X.env) :: starEach [] X.env := by rfl) :
    VIs X E O (.Tuple elts kk tpos) (.Call (.Name "enumerate" p) [a] [] pos) (eEnum m) := by
  obtain ⟨mn, t, pe, f⟩ := h
  refine ⟨fun xq s n Q Q' hq w => mn _ _ _ _ _ (fun d n' ⟨j, e1, q⟩ => ⟨j, e1, hq _ _ q⟩) w, _, pi_enumA hg hm (pa_cons pe pa_nil hs') hs, fun aS A0 H0 σ H s n xq R S L hm => f aS A0 H0 σ H s n xq _ S L (mn _ _ _ _ _ (fun d n' q v H' kp st r => ?_) hm)⟩
  obtain ⟨ds, e, q⟩ := q
  have S' := S.step kp st
  have q := fun J => q J H' kp st
  have fin : ∀ {xs : List V}, RepL X.K aS H' (AV aS A0 O σ) ds xs → ∀ i H1 A x y, i < (pairsD 0 ds).length → KpS aS (bare O σ H') H1 → Far aS A0 (bare O σ H') A → (some (V.int (i : Nat)) : Option V) = some x → xs[i]? = some y → ∃ d1 d2, (pairsD 0 ds)[i]? = some (.tup [d1, d2]) ∧ Rep X.K aS H1 A d1 x ∧ Rep X.K aS H1 A d2 y := by
    intro xs rl i H1 A x y hi k1 st1 hx hy
    cases hx
    obtain ⟨d2, e2, r2⟩ := RepL.get' (RepL.mono (S'.onBase k1 st1) _ _ rl) hy
    refine ⟨.int (i : Nat), d2, ?_, rep_int, r2⟩
    rw [pairsD_get 0 i ds d2 e2, Nat.zero_add]
  unfold dSeq at e
  split at e
  · cases e
    rw [Rep] at r
    obtain ⟨b, xs, ev, ha, hq, rl⟩ := r
    refine ⟨b, xs, by rw [ev], .inl ⟨SqL.of hq, q _ (it_ypair walk_enum (by rw [pairsD_length, rl.length]) (fun H1 k => SqL.of (k b _ ((bare_not fun z => ha (.inr (.inr z))).trans hq) fun z => ha (.inr (.inl z)))) (fin rl))⟩⟩
  · cases e
    rw [Rep] at r
    obtain ⟨b, xs, ev, hq, rl⟩ := r
    refine ⟨b, xs, by rw [ev], .inr ⟨hq.sq, q _ (it_ypair walk_enumT (by rw [pairsD_length, rl.length]) (fun H1 k => (S'.onT k hq).sq) (fin rl))⟩⟩
  · cases e
def zipD : List D → List D → List D
  | x :: xs, y :: ys => .tup [x, y] :: zipD xs ys
  | _, _ => []
theorem zipD_length : ∀ xs ys : List D, (zipD xs ys).length = min xs.length ys.length
  | [], _ => by simp [zipD]
  | _ :: _, [] => by simp [zipD]
  | x :: xs, y :: ys => by rw [zipD, List.length_cons, zipD_length xs ys, List.length_cons, List.length_cons]; omega
theorem zipD_get : ∀ (i : Nat) (xs ys : List D) (x y : D), xs[i]? = some x → ys[i]? = some y → (zipD xs ys)[i]? = some (.tup [x, y])
  | _, [], _, _, _, h, _ => by simp at h
  | _, _ :: _, [], _, _, _, h => by simp at h
  | 0, x :: xs, y :: ys, _, _, h, h2 => by
    simp at h h2
    subst h h2
    rfl
  | i + 1, x :: xs, y :: ys, x', y', h, h2 => by
    rw [zipD, List.getElem?_cons_succ]
    exact zipD_get i xs ys x' y' (by simpa using h) (by simpa using h2)
theorem walk_zipT {K : PySem.W.Frag} {a b : Addr} {xs ys : List V} {n : Nat} (hn : n = min xs.length ys.length) : Walk (RZ.ItzT K a b) n (fun H => SqT K H a xs ∧ SqT K H b ys) (YPair (fun i => xs[i]?) (fun i => ys[i]?)) where
  goes := fun i H hi ⟨qa, qb⟩ => ⟨xs, ys, xs[i]'(by omega), ys[i]'(by omega), qa, qb, List.getElem?_eq_getElem _, List.getElem?_eq_getElem _⟩
  stops := fun H ⟨qa, qb⟩ => ⟨xs, ys, qa, qb, by omega⟩
  yields := fun i H v H' _ ⟨qa, qb⟩ ⟨T, x, y, e1, e2, e3, ea, eb⟩ => ⟨T, x, y, e1, e2, e3, ea xs qa, eb ys qb⟩
/-- two lists, or two tuples -/
def dZip : D → D → Option (List D)
  | .lst xs, .lst ys => some (zipD xs ys)
  | .tup xs, .tup ys => some (zipD xs ys)
  | _, _ => none
def eZip (a b : EM D) : EM (List D) := fun xq s n Q => a xq s n fun x n1 => b xq s n1 fun y n2 => ∃ ds, dZip x y = some ds ∧ Q ds n2
theorem vi_zip {a b : Expr} {ma mb : EM D} {p tpos : Pos} {elts : List Expr} {kk : Nat} (hg : Gl X "zip") (hm : X.mg "zip" = none) (ha : VE X E O a ma) (hb : VE X E O b mb)
    (hs : starEach [a, b] X.env = (false, eval a X.env) :: starEach [b] X.env := by rfl) (hpl : (backTo pos (starEach [b] X.env)).any (·.1) = false := by rfl) (hs'' : starEach [b] X.env = (false, eval b X.env) :: starEach [] X.env := by rfl) :
    VIs X E O (.Tuple elts kk tpos) (.Call (.Name "zip" p) [a, b] [] pos) (eZip ma mb) := by
  obtain ⟨mna, ta, pa, fa⟩ := ha
  obtain ⟨mnb, tb, pb, fb⟩ := hb
  refine ⟨fun xq s n Q Q' hq w => mna _ _ _ _ _ (fun d n' w => mnb _ _ _ _ _ (fun d' n'' ⟨i, e1, q⟩ => ⟨i, e1, hq _ _ q⟩) w) w, _, RZ.pi_zipA hg hm (pa_cons pa (pa_cons pb pa_nil hs'') hs) hs hpl, fun aS A0 H0 σ H s n xq R S L hm => ?_⟩
  refine fa aS A0 H0 σ H s n xq _ S L (mna _ _ _ _ _ (fun d1 n1 q v1 H1 k1 st1 r1 => ?_) hm)
  refine fb aS A0 H0 σ H1 s n1 xq _ (S.step k1 st1) L (mnb _ _ _ _ _ (fun d2 n2 q2 v2 H2 k2 st2 r2 => ?_) q)
  obtain ⟨ds, e, q3⟩ := q2
  have S' := S.step (k1.trans k2) st2
  have q3 := fun J => q3 J H2 (k1.trans k2) st2
  have r1 := r1.kp k2 st1 AV.st
  have fin : ∀ {xs ys : List V} {us ws : List D}, RepL X.K aS H2 (AV aS A0 O σ) us xs → RepL X.K aS H2 (AV aS A0 O σ) ws ys → ∀ i H1 A x y, i < (zipD us ws).length → KpS aS (bare O σ H2) H1 → Far aS A0 (bare O σ H2) A → xs[i]? = some x → ys[i]? = some y → ∃ d1 d2, (zipD us ws)[i]? = some (.tup [d1, d2]) ∧ Rep X.K aS H1 A d1 x ∧ Rep X.K aS H1 A d2 y := by
    intro xs ys us ws rl rl2 i H1 A x y hi k1 st1 hx hy
    obtain ⟨d1, e1, r1⟩ := RepL.get' (RepL.mono (S'.onBase k1 st1) _ _ rl) hx
    obtain ⟨d2, e2, r2⟩ := RepL.get' (RepL.mono (S'.onBase k1 st1) _ _ rl2) hy
    exact ⟨d1, d2, zipD_get i us ws d1 d2 e1 e2, r1, r2⟩
  unfold dZip at e
  split at e
  · cases e
    rw [Rep] at r1 r2
    obtain ⟨b1, xs, ev, ha, hq, rl⟩ := r1
    obtain ⟨b2, ys, ev2, ha2, hq2, rl2⟩ := r2
    subst ev ev2
    refine ⟨b1, b2, xs, ys, rfl, .inl ⟨SqL.of hq, SqL.of hq2, q3 _ (it_ypair (walk_zip rfl) (by rw [zipD_length, rl.length, rl2.length]) (fun H1 k => ⟨SqL.of (k b1 _ ((bare_not fun z => ha (.inr (.inr z))).trans hq) fun z => ha (.inr (.inl z))), SqL.of (k b2 _ ((bare_not fun z => ha2 (.inr (.inr z))).trans hq2) fun z => ha2 (.inr (.inl z)))⟩) (fin rl rl2))⟩⟩
  · cases e
    rw [Rep] at r1 r2
    obtain ⟨b1, xs, ev, hq, rl⟩ := r1
    obtain ⟨b2, ys, ev2, hq2, rl2⟩ := r2
    subst ev ev2
    refine ⟨b1, b2, xs, ys, rfl, .inr ⟨hq.sq, hq2.sq, q3 _ (it_ypair (walk_zipT rfl) (by rw [zipD_length, rl.length, rl2.length]) (fun H1 k => ⟨(S'.onT k hq).sq, (S'.onT k hq2).sq⟩) (fin rl rl2))⟩⟩
  · cases e
end
end DL
namespace DL
open PySem PySem.Spec PyProof.Rows L2
/-! ### targets -/
abbrev DG := D → Ev → (Ev → Prop) → Prop
abbrev DGs := List D → Ev → (Ev → Prop) → Prop
/-- a target stores into the slots vs alone -/
def VG (X : Cx) (O vs : List Nat) (tg : Expr) (g : DG) : Prop := (∀ d s Q Q', (∀ s', Q s' → Q' s') → g d s Q → g d s Q') ∧ ∃ gt, PG X tg gt ∧ ∀ (aS : Addr) (A0 : A0T) (H0 : Hp) (σ : L2.St) (H : Hp) (s : Ev) (n : Nat) (d : D) (v : V) (Q : Ev → Prop) (QH : L2.St → Hp → Prop), SR X.K aS O A0 H0 σ H s n → Rep X.K aS H (AV aS A0 O σ) d v → g d s Q →
  (∀ σ' s', SR X.K aS O A0 H0 σ' H s' n → σ'.length = σ.length → (∀ j, j ∉ vs → σ'[j]? = σ[j]?) → AV aS A0 O σ' = AV aS A0 O σ → Q s' → QH σ' H) → gt v σ H QH
def VGs (X : Cx) (O vs : List Nat) (tg : List Expr) (g : DGs) : Prop := (∀ d s Q Q', (∀ s', Q s' → Q' s') → g d s Q → g d s Q') ∧ ∃ gt, PGs X tg gt ∧ ∀ (aS : Addr) (A0 : A0T) (H0 : Hp) (σ : L2.St) (H : Hp) (s : Ev) (n : Nat) (d : List D) (v : List V) (Q : Ev → Prop) (QH : L2.St → Hp → Prop), SR X.K aS O A0 H0 σ H s n → RepL X.K aS H (AV aS A0 O σ) d v → g d s Q →
  (∀ σ' s', SR X.K aS O A0 H0 σ' H s' n → σ'.length = σ.length → (∀ j, j ∉ vs → σ'[j]? = σ[j]?) → AV aS A0 O σ' = AV aS A0 O σ → Q s' → QH σ' H) → gt v σ H QH
def gNm (i : Nat) : DG := fun d s Q => Q (s.set i (some d))
def gTp (g : DGs) : DG := fun d s Q => ∃ ds, d = .tup ds ∧ g ds s Q
def gsNil : DGs := fun ds s Q => ds = [] ∧ Q s
def gsCons (g : DG) (r : DGs) : DGs := fun ds s Q => ∃ d dr, ds = d :: dr ∧ g d s fun s' => r dr s' Q
section
variable {X : Cx} {E : XK} {O O' OB OL vs ws hid : List Nat} {e tg : Expr} {es : List Expr} {m : EM D} {mi : EM (List D)} {mt : EM Bool} {mb : SM} {g : DG} {gs : DGs} {pos : Pos} {i : Nat}
theorem vg_name {x : Str} (hi : i ∉ O) (hnd : X.N.Nodup) (hN : X.N[i]? = some x) (hx : Loc X.env.scope x) (hf : X.fn x = true ∨ X.env.scope.names.lookup x = some .local := by first | exact .inl rfl | exact .inr rfl | assumption) : VG X O [i] (.Name x pos) (gNm i) := by
  refine ⟨fun _ _ _ _ hq h => hq _ h, _, pg_name hnd hN hx hf, fun aS A0 H0 σ H s n d v Q QH S r h k => ?_⟩
  exact k _ _ (S.set hi r) (by rw [List.length_set]) (fun j hj => set_other fun z => hj (by simp [z])) (AV.set hi) h
theorem vgs_nil : VGs X O [] [] gsNil := ⟨fun _ _ _ _ hq h => ⟨h.1, hq _ h.2⟩, _, pgs_nil, fun aS A0 H0 σ H s n d v Q QH S r h k => by
  obtain ⟨e, h⟩ := h
  subst e
  rw [RepL] at r
  exact ⟨r, k σ s S rfl (fun _ _ => rfl) rfl h⟩⟩
theorem vgs_cons (h1 : VG X O vs e g) (h2 : VGs X O ws es gs) (hs : (assignEach (e :: es) X.env).map (·.2) = assign e X.env :: (assignEach es X.env).map (·.2) := by rfl) : VGs X O (vs ++ ws) (e :: es) (gsCons g gs) := by
  obtain ⟨n1, g1, p1, f1⟩ := h1
  obtain ⟨n2, g2, p2, f2⟩ := h2
  refine ⟨fun _ _ _ _ hq ⟨d, dr, e, h⟩ => ⟨d, dr, e, n1 _ _ _ _ (fun _ h => n2 _ _ _ _ hq h) h⟩, _, pgs_cons p1 p2 hs, fun aS A0 H0 σ H s n d v Q QH S r h k => ?_⟩
  obtain ⟨d1, dr, ed, h⟩ := h
  subst ed
  rw [RepL] at r
  obtain ⟨v1, vr, ev, r1, r2⟩ := r
  refine ⟨v1, vr, ev, f1 aS A0 H0 σ H s n d1 v1 _ _ S r1 h fun σ1 s1 S1 l1 o1 a1 q1 => ?_⟩
  refine f2 aS A0 H0 σ1 H s1 n dr vr Q QH S1 (by rw [a1]; exact r2) q1 fun σ2 s2 S2 l2 o2 a2 q2 => ?_
  refine k σ2 s2 S2 (l2.trans l1) (fun j hj => ?_) (a2.trans a1) q2
  rw [o2 j fun z => hj (List.mem_append_right _ z), o1 j fun z => hj (List.mem_append_left _ z)]
theorem vg_tup {k : Nat} {n : Nat} (hc : X.calm = true) (h : VGs X O vs es gs) (hl : ∀ ds s Q, gs ds s Q → ds.length = n) (hn : (assignEach es X.env).length = n := by rfl) (hst : (assignEach es X.env).findIdx? (·.1) = none := by rfl) : VG X O vs (.Tuple es k pos) (gTp gs) := by
  obtain ⟨n1, g1, p1, f1⟩ := h
  refine ⟨fun _ _ _ _ hq ⟨ds, e, h⟩ => ⟨ds, e, n1 _ _ _ _ hq h⟩, _, pg_tup hc p1 hn hst, fun aS A0 H0 σ H s n d v Q QH S r h k => ?_⟩
  obtain ⟨ds, ed, h⟩ := h
  subst ed
  rw [Rep] at r
  obtain ⟨a, xs, ev, hq, rl⟩ := r
  exact ⟨a, xs, ev, hq.sq, by rw [rl.length]; exact hl _ _ _ h, f1 aS A0 H0 σ H s n ds xs Q QH S rl h k⟩
theorem gs_len0 {ds : List D} {s : Ev} {Q : Ev → Prop} (h : gsNil ds s Q) : ds.length = 0 := by rw [h.1]; rfl
/-- target = e, the target a tuple of names (or any) -/
def sAsg (m : EM D) (g : DG) : SM := fun xq de s n => m xq s n fun d n' => g d s fun s' => de.nx s' n'
theorem vs_asg (h : VE X E O e m) (hg : VG X O vs tg g) (hs : swapsWithSole [tg] e pos.line X.env = pure false := by rfl) (hw : swappedStores [tg] e X.env = pure none := by rfl)
    (h1 : (assignEach [tg] X.env).map (·.2) = [assign tg X.env] := by rfl) : VS X E O O OL (.Assign [tg] e pos) (sAsg m g) := by
  obtain ⟨mn, t, p, f⟩ := h
  obtain ⟨_, g1, p1, f1⟩ := hg
  refine ⟨_, ps_asg p p1 hs hw h1, fun aS A0 H0 σ H s n xq de De S L k h => f aS A0 H0 σ H s n xq _ S L (mn _ _ _ _ _ (fun d n' q v H' kp st r => ?_) h)⟩
  exact f1 aS A0 H0 σ H' s n' d v _ _ (S.step kp st) r q fun σ' s' S' _ _ _ q' => k.nx σ' H' s' n' S' q'
/-! ### for -/
def sForL (g : DG) (mb : SM) (xq : XQ) (de : DE) : List D → Ev → Nat → Prop
  | [], s, n => de.nx s n
  | d :: ds, s, n => g d s fun s1 => mb xq { de with nx := fun s2 n2 => sForL g mb xq de ds s2 n2, ct := fun s2 n2 => sForL g mb xq de ds s2 n2, bk := de.nx } s1 n
def sFor (mi : EM (List D)) (g : DG) (mb : SM) : SM := fun xq de s n => mi xq s n fun ds n1 => sForL g mb xq de ds s n1
theorem LX.base {K : PySem.W.Frag} {aS : Addr} {A0 : AS} {H0 Hb : Hp} {xq : XQ} (L : LX K E aS A0 H0 xq) (h : ∀ b u, H0 b = some u → b ≠ aS → Hb b = some u) : LX K E aS A0 Hb xq := fun C fs n d H' k st r q => by
  refine L C fs n d H' (fun b u e z => k b u (h b u e z) z) st ?_ q
  cases d with
  | none => exact r
  | some a =>
    obtain ⟨ys, e1, e2, e3⟩ := r
    refine ⟨ys, Option.eq_none_iff_forall_ne_some.mpr fun u z => ?_, e2, e3⟩
    obtain ⟨xs, es⟩ := st.lst
    have na : a ≠ aS := fun z => by rw [z, es] at e2; cases e2
    rw [h a u z na] at e1
    cases e1
theorem LK.base {K : PySem.W.Frag} {aS : Addr} {A0 : A0T} {H0 Hb : Hp} {de : DE} {De : Ends} (k : LK K aS O OL A0 H0 de De) (h : ∀ b u, H0 b = some u → b ≠ aS → Hb b = some u) : LK K aS O OL A0 Hb de De :=
  ⟨fun σ H s n S q => k.nx σ H s n (S.back h) q, fun v H d n kp st r q => k.rt v H d n (fun b u e z => kp b u (h b u e z) z) st r q, fun σ H s n S q => k.bk σ H s n (S.back h) q, fun σ H s n S q => k.ct σ H s n (S.back h) q⟩
theorem drop_get {α : Type} {l : List α} {i : Nat} {x : α} (h : l[i]? = some x) : l.drop i = x :: l.drop (i + 1) := by
  obtain ⟨h1, h2⟩ := List.getElem?_eq_some_iff.mp h
  exact h2 ▸ List.drop_eq_getElem_cons h1
theorem vs_for {iter : Expr} {body : List Stmt} (hp : PassesOwn (model X.prog X.w) X.A X.env X.xe) (hc : X.calm = true) (hi : VIs X E O tg iter mi) (hg : VG X O vs tg g) (hb : VSs X E O O O body mb)
    (hs : ∀ x, foldedSetIterable iter X.env x = pure x := by intro _; rfl) : VS X E O O OL (.For tg iter body [] pos) (sFor mi g mb) := by
  obtain ⟨mn, wi, pi, fi⟩ := hi
  obtain ⟨_, gt, pg, fg⟩ := hg
  obtain ⟨tb, pb, fb⟩ := hb
  refine ⟨_, ps_for hp hc pi pg pb hs, fun aS A0 H0 σ H s n xq de De S L k h => ?_⟩
  refine fi aS A0 H0 σ H s n xq _ S L (mn _ _ _ _ _ (fun ds n1 q J H1 kp st it => ?_) h)
  have S1 := S.step kp st
  have le := S1.le
  have hF : ∀ {σ' H' s' n'}, SR X.K aS O A0 (bare O σ H1) σ' H' s' n' → Far aS A0 (bare O σ H1) (AV aS A0 O σ') := fun {σ' H' s' n'} S' => ⟨AV.st, fun b z => by
    rcases z with z | z | ⟨j, hj, e⟩
    · exact .inl z
    · exact .inr (.inl z)
    · obtain ⟨d, b', e1, e2, e3, _⟩ := S'.ow j hj
      rw [e] at e2
      cases e2
      exact .inr (.inr e3)⟩
  obtain ⟨G, Y, w, hG, hY⟩ := it
  refine for_it w (fun i σ' H' => ∃ s' n', SR X.K aS O A0 (bare O σ H1) σ' H' s' n' ∧ sForL g mb xq de (ds.drop i) s' n') ⟨s, n1, S1.base, q⟩ (fun i σ' H' _ z => ?_) (fun i x σ' H' H2 hi z y => ?_) (fun σ' H' z => ?_)
  · obtain ⟨s', n', S', _⟩ := z
    exact hG H' S'.fr
  · obtain ⟨s', n', S', q'⟩ := z
    obtain ⟨k2, d, ed, rd⟩ := hY i H' x H2 n' _ hi S'.fr S'.st (hF S') y
    rw [drop_get ed] at q'
    have S2 := S'.step (KpS.all k2) (S'.st.kp k2)
    refine fg aS A0 _ σ' H2 s' n' d x _ _ S2 rd q' fun σ3 s3 S3 _ _ a3 q3 => ?_
    exact fb aS A0 _ σ3 H2 s3 n' xq { de with nx := fun s2 n2 => sForL g mb xq de (ds.drop (i + 1)) s2 n2, ct := fun s2 n2 => sForL g mb xq de (ds.drop (i + 1)) s2 n2, bk := de.nx } _ S3 (L.base le) ⟨fun σ4 H4 s4 n4 S4 q4 => ⟨s4, n4, S4, q4⟩, (k.base le).rt, fun σ4 H4 s4 n4 S4 q4 => k.nx σ4 H4 s4 n4 (S4.back le) q4, fun σ4 H4 s4 n4 S4 q4 => ⟨s4, n4, S4, q4⟩⟩ q3
  · obtain ⟨s', n', S', q'⟩ := z
    rw [List.drop_length] at q'
    exact k.nx σ' H' s' n' (S'.back le) q'
/-! ### while -/
def sWhileN (mt : EM Bool) (mb : SM) (xq : XQ) (de : DE) : Nat → Ev → Nat → Prop
  | 0, _, _ => False
  | k + 1, s, n => mt xq s n fun c n1 => if c = true then mb xq { de with nx := fun s2 n2 => sWhileN mt mb xq de k s2 n2, ct := fun s2 n2 => sWhileN mt mb xq de k s2 n2, bk := de.nx } s n1 else de.nx s n1
def sWhile (mt : EM Bool) (mb : SM) : SM := fun xq de s n => ∃ k, sWhileN mt mb xq de k s n
theorem vs_while {c : Expr} {body : List Stmt} (hp : PassesOwn (model X.prog X.w) X.A X.env X.xe) (hc : VT X E O c mt) (hb : VSs X E O O O body mb) : VS X E O O OL (.While c body [] pos) (sWhile mt mb) := by
  obtain ⟨mn, tc, pc, fc⟩ := hc
  obtain ⟨tb, pb, fb⟩ := hb
  refine ⟨_, ps_while hp pc pb, fun aS A0 H0 σ H s n xq de De S L k h => ?_⟩
  obtain ⟨j, h⟩ := h
  refine ⟨fun j σ' H' => ∃ s' n', SR X.K aS O A0 H0 σ' H' s' n' ∧ sWhileN mt mb xq de j s' n', ⟨j, s, n, S, h⟩, fun j σ' H' w => ?_⟩
  obtain ⟨s', n', S', w⟩ := w
  cases j with
  | zero => exact w.elim
  | succ j =>
    refine fc aS A0 H0 σ' H' s' n' xq _ S' L (mn _ _ _ _ _ (fun b n1 q H1 k1 st1 => ?_) w)
    cases b with
    | true =>
      rw [if_pos rfl]
      refine ⟨fun σ2 H2 => ∃ s2 n2, SR X.K aS O A0 H0 σ2 H2 s2 n2 ∧ sWhileN mt mb xq de j s2 n2, fun σ2 H2 z => ⟨j, Nat.lt_succ_self j, z⟩, ?_⟩
      exact fb aS A0 H0 σ' H1 s' n1 xq { de with nx := fun s2 n2 => sWhileN mt mb xq de j s2 n2, ct := fun s2 n2 => sWhileN mt mb xq de j s2 n2, bk := de.nx } _ (S'.step k1 st1) L
        ⟨fun σ4 H4 s4 n4 S4 q4 => ⟨s4, n4, S4, q4⟩, k.rt, fun σ4 H4 s4 n4 S4 q4 => k.nx σ4 H4 s4 n4 S4 q4, fun σ4 H4 s4 n4 S4 q4 => ⟨s4, n4, S4, q4⟩⟩ q
    | false =>
      rw [if_neg (by decide)]
      exact k.nx σ' H1 s' n1 (S'.step k1 st1) q
/-! ### comprehensions -/
def sLcL (g : DG) (mt : EM Bool) (me : EM D) (xq : XQ) (s0 : Ev) : List D → Nat → List D → (List D → Nat → Prop) → Prop
  | [], n, acc, Q => Q acc n
  | d :: ds, n, acc, Q => g d s0 fun s1 => mt xq s1 n fun c n1 => if c = true then me xq s1 n1 fun x n2 => sLcL g mt me xq s0 ds n2 (acc ++ [x]) Q else sLcL g mt me xq s0 ds n1 acc Q
def eLc (mi : EM (List D)) (hs : List Nat) (g : DG) (mt : EM Bool) (me : EM D) : EM D := fun xq s n Q => mi xq s n fun ds n1 => ds.length ≤ LIM ∧ sLcL g mt me (fun _ _ => False) (hideL s hs) ds n1 [] fun xs n2 => Q (.lst xs) n2
def tYesD : EM Bool := fun _ _ n Q => Q true n
/-- the tests of a clause -/
def VTs (X : Cx) (E : XK) (O : List Nat) (ifs : List Expr) (m : EM Bool) : Prop := Mn m ∧ ∃ t, PTs X ifs t ∧ ∀ (aS : Addr) (A0 : A0T) (H0 : Hp) (σ : L2.St) (H : Hp) (s : Ev) (n : Nat) (xq : XQ) (Q : Bool → Hp → Prop), SR X.K aS O A0 H0 σ H s n → LX X.K E aS A0 H0 xq →
  m xq s n (fun b n' => ∀ H', KpS aS H H' → StA X.K aS H' n' → Q b H') → t σ H Q
theorem vts_nil : VTs X E O [] tYesD := ⟨fun _ _ _ _ _ hq h => hq _ _ h, _, pts_nil, fun aS A0 H0 σ H s n xq Q S L hm => hm H KpS.refl S.st⟩
theorem vts_one {c : Expr} (h : VT X E O c mt) : VTs X E O [c] mt := by
  obtain ⟨mn, t, p, f⟩ := h
  exact ⟨mn, t, pts_one p, f⟩
end
end DL
namespace DL
open PySem PySem.Spec PyProof.Rows L2
section
variable {K : PySem.W.Frag} {aS a p : Addr} {H H' H0 H1 Hb : Hp} {A : AS} {A0 : A0T} {O OB : List Nat} {σ : L2.St} {s : Ev} {n i : Nat}
theorem SR.hide2 (S : SR K aS O A0 H0 σ H s n) (hi : i ∉ O) : SR K aS O A0 H0 (σ.set i none) H (s.set i none) n where
  len := by rw [List.length_set, List.length_set]; exact S.len
  sh := fun j d e hj => by
    rw [AV.set hi]
    by_cases hji : j = i
    · subst hji
      have hl : j < s.length := by
        have := (List.getElem?_eq_some_iff.mp e).1
        rwa [List.length_set] at this
      rw [List.getElem?_set_self hl] at e
      cases e
    · rw [set_other hji] at e ⊢
      exact S.sh j d e hj
  ow := fun j hj => by
    have hji : j ≠ i := fun z => hi (z ▸ hj)
    rw [AV.set hi, set_other hji, set_other hji]
    exact S.ow j hj
  ds := fun j k b hj hk e1 e2 => by
    rw [set_other (show j ≠ i from fun z => hi (z ▸ hj))] at e1
    rw [set_other (show k ≠ i from fun z => hi (z ▸ hk))] at e2
    exact S.ds j k b hj hk e1 e2
  fr := S.fr
  st := S.st
  av := S.av
  pn := fun h a e => by
    rw [set_other (show 0 ≠ i from fun z => hi (z ▸ h))]
    exact S.pn h a e
theorem SR.wipe : ∀ {vs : List Nat}, (∀ j ∈ vs, j ∉ O) → SR K aS O A0 H0 σ H s n → SR K aS O A0 H0 (L2.wipe σ vs) H (hideL s vs) n
  | [], _, S => S
  | v :: vs, h, S => (SR.wipe (vs := vs) (fun j hj => h j (List.mem_cons_of_mem _ hj)) S).hide2 (h v List.mem_cons_self)
theorem AV.wipe {A0 : AS} : ∀ {vs : List Nat}, (∀ j ∈ vs, j ∉ O) → AV aS A0 O (L2.wipe σ vs) = AV aS A0 O σ
  | [], _ => rfl
  | v :: vs, h => (AV.set (h v List.mem_cons_self)).trans (AV.wipe (vs := vs) fun j hj => h j (List.mem_cons_of_mem _ hj))
theorem hideL_append (s : Ev) : ∀ vs hs : List Nat, hideL s (vs ++ hs) = hideL (hideL s hs) vs
  | [], _ => rfl
  | v :: vs, hs => by rw [List.cons_append, hideL, hideL, hideL_append s vs hs]
theorem wipe_out : ∀ {vs : List Nat} {j : Nat}, j ∉ vs → (L2.wipe σ vs)[j]? = σ[j]?
  | [], _, _ => rfl
  | v :: vs, j, h => by
    rw [L2.wipe, set_other (show j ≠ v from fun z => h (z ▸ List.mem_cons_self))]
    exact wipe_out fun z => h (List.mem_cons_of_mem _ z)
theorem wipe_in : ∀ {vs : List Nat} {j : Nat}, j ∈ vs → j < σ.length → (L2.wipe σ vs)[j]? = some none
  | v :: vs, j, h, hl => by
    rw [L2.wipe]
    by_cases z : j = v
    · rw [z]
      exact List.getElem?_set_self (by rw [wipe_length, ← z]; exact hl)
    · rw [set_other z]
      exact wipe_in ((List.mem_cons.mp h).resolve_left z) hl
theorem wipe_eq {σ2 : L2.St} {vs : List Nat} (hl : σ2.length = σ.length) (h : ∀ j, j ∉ vs → σ2[j]? = σ[j]?) : L2.wipe σ2 vs = L2.wipe σ vs := by
  apply List.ext_getElem?
  intro j
  by_cases hj : j ∈ vs
  · by_cases hlt : j < σ.length
    · rw [wipe_in hj hlt, wipe_in hj (by rw [hl]; exact hlt)]
    · rw [List.getElem?_eq_none (by rw [wipe_length, hl]; omega), List.getElem?_eq_none (by rw [wipe_length]; omega)]
  · rw [wipe_out hj, wipe_out hj]
    exact h j hj
theorem AV.plus {A0 : AS} : AV aS (fun b => A0 b ∨ b = p) O σ = fun b => AV aS A0 O σ b ∨ b = p := by
  funext b
  unfold AV
  refine propext ⟨fun z => ?_, fun z => ?_⟩
  · rcases z with (z | z) | z | z
    · exact .inl (.inl z)
    · exact .inr z
    · exact .inl (.inr (.inl z))
    · exact .inl (.inr (.inr z))
  · rcases z with (z | z | z) | z
    · exact .inl (.inl z)
    · exact .inr (.inl z)
    · exact .inr (.inr z)
    · exact .inl (.inr z)
/-- a new object that is kept for oneself -/
theorem SR.laidA {o : HO} (S : SR K aS O A0 H0 σ H s n) (hp : H p = none) : SR K aS O ⟨fun b => A0 b ∨ b = p, A0.z⟩ H0 σ (upd H p o) s n := by
  have up : ∀ b u, H b = some u → upd H p o b = some u := fun b u e => by rw [upd_ne (ne_of_none e hp)]; exact e
  refine ⟨S.len, fun j d e hj => ?_, fun j hj => ?_, S.ds, S.fr.trans (KpS.upd hp), S.st.upd hp, fun b hb => ?_, S.pn⟩
  · rw [AV.plus]
    obtain ⟨v, ev, r⟩ := S.sh j d e hj
    exact ⟨v, ev, Rep.mono (sub_new hp) _ _ r⟩
  · rw [AV.plus]
    obtain ⟨d, b, e1, e2, e3, e4, e5, e6⟩ := S.ow j hj
    refine ⟨d, b, e1, e2, e3, fun z => z.elim e4 fun z => S.new hp (.inr (.inr ⟨j, hj, z ▸ e2⟩)), e5, ?_⟩
    cases d with
    | lst ds => obtain ⟨xs, e, q⟩ := e6; exact ⟨xs, up _ _ e, RepL.mono (sub_new hp) _ _ q⟩
    | dic ds => obtain ⟨xs, e, q⟩ := e6; exact ⟨xs, up _ _ e, RepK.mono (sub_new hp) _ _ q⟩
    | obj C ds => obtain ⟨dx, xs, e, q⟩ := e6; exact ⟨dx, xs, up _ _ e, RepF.mono (sub_new hp) _ _ q⟩
    | _ => exact e6.elim
  · rcases hb with hb | hb
    · obtain ⟨u, e⟩ := S.av b hb
      exact ⟨u, up _ _ e⟩
    · exact ⟨o, by rw [hb]; exact upd_same⟩
/-- what is kept for oneself is changed -/
theorem sub_poke {o o' : HO} (hA : A p) (ho : H p = some o) (hk : ∀ xs, o ≠ .tup xs) : Sub K H (upd H p o') A A := by
  have ne : ∀ b, ¬ A b → b ≠ p := fun b h z => h (z ▸ hA)
  have up : ∀ b u, H b = some u → b ≠ p → upd H p o' b = some u := fun b u q z => by rw [upd_ne z]; exact q
  refine ⟨fun b xs h q => ⟨h, up _ _ q (ne b h)⟩, fun b xs q => q.elim (fun q => .inl (up _ _ q fun z => ?_)) .inr, fun b ys h q => ⟨h, ?_⟩, fun b C dx ys h q => ⟨h, up _ _ q (ne b h)⟩⟩
  · have q : H b = _ := q
    rw [z, ho] at q
    cases q
    exact hk _ rfl
  · rcases q with q | ⟨z, q⟩
    · exact .inl (up _ _ q (ne b h))
    · exact .inr ⟨z, up _ _ q (ne b h)⟩
theorem SR.poke {o o' : HO} (S : SR K aS O A0 H0 σ H s n) (hA : A0 p) (hs : p ≠ aS) (ho : H p = some o) (h0 : H0 p = none) (hk : ∀ xs, o ≠ .tup xs) (hf : ∀ ob u, o ≠ .frz ob u) : SR K aS O A0 H0 σ (upd H p o') s n := by
  have hAV : AV aS A0 O σ p := .inl hA
  have up : ∀ b u, H b = some u → b ≠ p → upd H p o' b = some u := fun b u q z => by rw [upd_ne z]; exact q
  have sub : Sub K H (upd H p o') (AV aS A0 O σ) (AV aS A0 O σ) := sub_poke hAV ho hk
  refine ⟨S.len, fun j d ej hj => ?_, fun j hj => ?_, S.ds, fun b u q z => up _ _ (S.fr b u q z) (fun z => by rw [z, h0] at q; cases q), ?_, fun b hb => ?_, S.pn⟩
  · obtain ⟨v, q1, r⟩ := S.sh j d ej hj
    exact ⟨v, q1, Rep.mono sub _ _ r⟩
  · obtain ⟨d, b, q1, q2, q3, q4, q5, q6⟩ := S.ow j hj
    have hb : b ≠ p := fun z => q4 (z ▸ hA)
    refine ⟨d, b, q1, q2, q3, q4, q5, ?_⟩
    cases d with
    | lst ds => obtain ⟨xs, e, q⟩ := q6; exact ⟨xs, up _ _ e hb, RepL.mono sub _ _ q⟩
    | dic ds => obtain ⟨xs, e, q⟩ := q6; exact ⟨xs, up _ _ e hb, RepK.mono sub _ _ q⟩
    | obj C ds => obtain ⟨dx, xs, e, q⟩ := q6; exact ⟨dx, xs, up _ _ e hb, RepF.mono sub _ _ q⟩
    | _ => exact q6.elim
  · obtain ⟨a0, cs, i', g, m, d', z1, z2, ⟨ob, z3⟩, z4⟩ := S.st
    refine ⟨a0, cs, i', g, m, d', up _ _ z1 (Ne.symm hs), z2, ⟨ob, up _ _ z3 fun z => ?_⟩, z4⟩
    rw [z, ho] at z3
    cases z3
    exact hf _ _ rfl
  · by_cases z : b = p
    · rw [z, upd_same]
      exact ⟨_, rfl⟩
    · obtain ⟨u, q⟩ := S.av b hb
      exact ⟨u, up _ _ q z⟩
end
/-! a reading for all blocks at once -/
abbrev Bk := Shared × Hp × Addr × List (Str × Addr) × List Addr
abbrev Cx.bk (X : Cx) (scope : Scope) (c : Bk) : Cx := X.blk c.1 c.2.1 scope (compEnvC scope c.2.2.2.1 c.2.2.1 X.env) c.2.2.2.2
section
variable {X : Cx} {E : XK} {O OB vs hid : List Nat} {tg e iter : Expr} {ifs : List Expr} {m me : EM D} {mi : EM (List D)} {mt : EM Bool} {g : DG} {scope : Scope} {pos : Pos}
theorem VX.all {R : RK} (h : ∀ c : Bk, VX R (Cx.bk X scope c) E O e m) : ∃ t, (∀ c : Bk, PE (Cx.bk X scope c) e t) ∧ ∀ (aS : Addr) (A0 : A0T) (H0 : Hp) (σ : L2.St) (H : Hp) (s : Ev) (n : Nat) (xq : XQ) (Q : VK), SR X.K aS O A0 H0 σ H s n → LX X.K E aS A0 H0 xq →
    m xq s n (fun d n' => ∀ v H', KpS aS H H' → StA X.K aS H' n' → R X.K aS H' (AV aS A0 O σ) d v → Q v H') → t σ H Q := by
  have h2 := fun c => (h c).2
  refine ⟨fun σ H Q => ∀ c, Classical.choose (h2 c) σ H Q, fun c => ⟨fun pins s σ H Q I q => (Classical.choose_spec (h2 c)).1.run pins s σ H Q I (q c)⟩, fun aS A0 H0 σ H s n xq Q S L hm c => (Classical.choose_spec (h2 c)).2 aS A0 H0 σ H s n xq Q S L hm⟩
theorem VTs.all (h : ∀ c : Bk, VTs (Cx.bk X scope c) E O ifs mt) : ∃ t, (∀ c : Bk, PTs (Cx.bk X scope c) ifs t) ∧ ∀ (aS : Addr) (A0 : A0T) (H0 : Hp) (σ : L2.St) (H : Hp) (s : Ev) (n : Nat) (xq : XQ) (Q : Bool → Hp → Prop), SR X.K aS O A0 H0 σ H s n → LX X.K E aS A0 H0 xq →
    mt xq s n (fun b n' => ∀ H', KpS aS H H' → StA X.K aS H' n' → Q b H') → t σ H Q := by
  have h2 := fun c => (h c).2
  refine ⟨fun σ H Q => ∀ c, Classical.choose (h2 c) σ H Q, fun c => ⟨fun pins s σ H Q I q => (Classical.choose_spec (h2 c)).1.run pins s σ H Q I (q c)⟩, fun aS A0 H0 σ H s n xq Q S L hm c => (Classical.choose_spec (h2 c)).2 aS A0 H0 σ H s n xq Q S L hm⟩
theorem VG.all (h : ∀ c : Bk, VG (Cx.bk X scope c) O vs tg g) : ∃ gt, (∀ c : Bk, PG (Cx.bk X scope c) tg gt) ∧ ∀ (aS : Addr) (A0 : A0T) (H0 : Hp) (σ : L2.St) (H : Hp) (s : Ev) (n : Nat) (d : D) (v : V) (Q : Ev → Prop) (QH : L2.St → Hp → Prop), SR X.K aS O A0 H0 σ H s n → Rep X.K aS H (AV aS A0 O σ) d v → g d s Q →
    (∀ σ' s', SR X.K aS O A0 H0 σ' H s' n → σ'.length = σ.length → (∀ j, j ∉ vs → σ'[j]? = σ[j]?) → AV aS A0 O σ' = AV aS A0 O σ → Q s' → QH σ' H) → gt v σ H QH := by
  have h2 := fun c => (h c).2
  refine ⟨fun v σ H Q => ∀ c, Classical.choose (h2 c) v σ H Q, fun c => ⟨fun pins s σ H v u Q I r q => (Classical.choose_spec (h2 c)).1.run pins s σ H v u Q I r (q c)⟩, fun aS A0 H0 σ H s n d v Q QH S r hm k c => (Classical.choose_spec (h2 c)).2 aS A0 H0 σ H s n d v Q QH S r hm k⟩
def bk0 : Bk := ({}, fun _ => none, 0, [], [])
theorem mn_lcL (h1 : Mn mt) (h2 : Mn me) (h3 : ∀ d s Q Q', (∀ s', Q s' → Q' s') → g d s Q → g d s Q') {xq : XQ} {s0 : Ev} : ∀ (ds : List D) (n : Nat) (acc : List D) (Q Q' : List D → Nat → Prop), (∀ x n, Q x n → Q' x n) → sLcL g mt me xq s0 ds n acc Q → sLcL g mt me xq s0 ds n acc Q'
  | [], n, acc, Q, Q', hq, h => hq _ _ h
  | d :: ds, n, acc, Q, Q', hq, h => h3 _ _ _ _ (fun s1 h => h1 _ _ _ _ _ (fun c n1 h => by
      cases c with
      | true => exact h2 _ _ _ _ _ (fun x n2 h => mn_lcL h1 h2 h3 ds n2 _ Q Q' hq h) h
      | false => exact mn_lcL h1 h2 h3 ds n1 _ Q Q' hq h) h) h
theorem vf_lcAt {own : List (Str × Nat)} {ws : List Nat} (hc : X.calm = true) (hN : X.N.Nodup) (hi : VI X E O OB hid tg iter mi) (ok : BlkOk X.N X.env.scope scope own) (hown : ∀ j ∈ own.map (·.2), j ∉ OB) (hws : ∀ j ∈ ws, j ∈ own.map (·.2))
    (hg : ∀ c : Bk, VG (Cx.bk X scope c) OB ws tg g) (ht : ∀ c : Bk, VTs (Cx.bk X scope c) E OB ifs mt) (he : ∀ c : Bk, VE (Cx.bk X scope c) E OB e me) :
    Mn (eLc mi (own.map (·.2) ++ hid) g mt me) ∧ ∃ wi gt tt te, PI X tg iter wi ∧ (∀ c : Bk, PG (Cx.bk X scope c) tg gt) ∧ (∀ c : Bk, PTs (Cx.bk X scope c) ifs tt) ∧ (∀ c : Bk, PE (Cx.bk X scope c) e te) ∧
      ∀ (aS : Addr) (A0 : A0T) (H0 : Hp) (σ : L2.St) (H : Hp) (s : Ev) (n : Nat) (xq : XQ) (Q : VK), SR X.K aS O A0 H0 σ H s n → LX X.K E aS A0 H0 xq →
      eLc mi (own.map (·.2) ++ hid) g mt me xq s n (fun d n' => ∀ a H', H a = none → KpS aS H H' → StA X.K aS H' n' → Own X.K aS H' (fun b => AV aS A0 O σ b ∨ b = a) a d → Q (.ref a) H') → tLc wi gt tt te (own.map (·.2)) σ H Q := by
  have mnt := (ht bk0).1
  have mne := (he bk0).1
  have mng := (hg bk0).1
  obtain ⟨mni, wi, pi, fi⟩ := hi
  obtain ⟨gt, pg, fg⟩ := VG.all hg
  obtain ⟨tt, pt, ft⟩ := VTs.all ht
  obtain ⟨te, pe, fe⟩ := VX.all he
  refine ⟨fun xq s n Q Q' hq h => mni _ _ _ _ _ (fun ds n1 h => ⟨h.1, mn_lcL mnt mne mng _ _ _ _ _ (fun x n2 => hq _ _) h.2⟩) h, wi, gt, tt, te, pi, pg, pt, pe, fun aS A0 H0 σ H s n xq Q S L hm => ?_⟩
  have LF : ∀ A1, LX X.K E aS A1 H0 (fun _ _ => False) := fun _ _ _ _ _ _ _ _ _ z => z.elim
  refine fi aS A0 H0 σ H s n xq _ S L (mni _ _ _ _ _ (fun ds n1 q J H1 A1 kp st eA S1 it => ?_) hm)
  obtain ⟨hlim, q⟩ := q
  intro Dn hD
  obtain ⟨G, Y, w, hG, hY⟩ := it
  have hDs : Dn ≠ aS := fun z => by
    obtain ⟨xs, e⟩ := st.lst
    rw [z, e] at hD
    cases hD
  have hD0 : H0 Dn = none := Option.eq_none_iff_forall_ne_some.mpr fun u z => by
    rw [S1.fr _ _ z hDs] at hD
    cases hD
  have hDH : H Dn = none := Option.eq_none_iff_forall_ne_some.mpr fun u z => by
    rw [kp _ _ z hDs] at hD
    cases hD
  have S2 : SR X.K aS OB ⟨fun b => A1 b ∨ b = Dn, A1.z⟩ H0 (L2.wipe σ (own.map (·.2))) (upd H1 Dn (.lst [])) (hideL s (own.map (·.2) ++ hid)) n1 := by
    rw [hideL_append]
    exact (SR.wipe hown S1).laidA hD
  have hFar : ∀ {σ'}, AV aS (fun b => A1 b ∨ b = Dn) OB σ' = AV aS (fun b => A1 b ∨ b = Dn) OB σ → Far aS A1 (bare OB σ H1) (AV aS (fun b => A1 b ∨ b = Dn) OB σ') := fun {σ'} e => by
    rw [e]
    refine ⟨AV.st, fun b z => ?_⟩
    rcases z with (z | z) | z | z
    · exact .inl z
    · refine .inr (.inr ?_)
      by_cases y : ∃ i, i ∈ OB ∧ σ[i]? = some (some (.ref b))
      · exact bare_own y
      · rw [bare_not y, z]; exact hD
    · exact .inr (.inl z)
    · exact .inr (.inr (bare_own z))
  have eW : AV aS (fun b => A1 b ∨ b = Dn) OB (L2.wipe σ (own.map (·.2))) = AV aS (fun b => A1 b ∨ b = Dn) OB σ := AV.wipe hown
  have kb : ∀ {H'}, KpS aS H1 H' → KpS aS (bare OB σ H1) H' := fun {H'} k b u e z => k b u (bare_some e) z
  refine lc_it w (fun i H' => ∃ n' acc xs, SR X.K aS OB ⟨fun b => A1 b ∨ b = Dn, A1.z⟩ H0 (L2.wipe σ (own.map (·.2))) H' (hideL s (own.map (·.2) ++ hid)) n' ∧ KpS aS H1 H' ∧ H' Dn = some (.lst xs) ∧ RepL X.K aS H' (AV aS (fun b => A1 b ∨ b = Dn) OB σ) acc xs ∧ acc.length ≤ i ∧
      sLcL g mt me (fun _ _ => False) (hideL s (own.map (·.2) ++ hid)) (ds.drop i) n' acc (fun xs n2 => ∀ a H', H a = none → KpS aS H H' → StA X.K aS H' n2 → Own X.K aS H' (fun b => AV aS A0 O σ b ∨ b = a) a (.lst xs) → Q (.ref a) H'))
    ⟨n1, [], [], S2, KpS.upd hD, upd_same, RepL.nil, Nat.zero_le _, q⟩ (fun i H' _ z => ?_) (fun i x H' H2 hi z y => ?_) (fun H' z => ?_)
  · obtain ⟨n', acc, xs, _, k1, _⟩ := z
    exact hG H' (kb k1)
  · obtain ⟨n', acc, xs, S', k1, hd, rl, hl, q'⟩ := z
    obtain ⟨k2, d, ed, rd⟩ := hY i H' x H2 n' _ hi (kb k1) S'.st (hFar eW) y
    rw [drop_get ed] at q'
    have S3 := S'.step (KpS.all k2) (S'.st.kp k2)
    refine fg aS _ H0 _ H2 _ n' d x _ _ S3 rd q' fun σ3 s3 S4 l3 o3 a3 q3 => ?_
    refine ⟨?_, ft aS _ H0 σ3 H2 s3 n' (fun _ _ => False) _ S4 (LF _) (mnt _ _ _ _ _ (fun c n2 q4 H3 k3 st3 => ?_) q3)⟩
    · have e1 := wipe_eq (vs := own.map (·.2)) l3 fun j hj => o3 j fun z => hj (hws j z)
      rw [e1]
      exact wipe_eq (wipe_length _ _) fun j hj => wipe_out hj
    · have kk : KpS aS H' H3 := (KpS.all k2).trans k3
      cases c with
      | true =>
        rw [if_pos rfl] at q4 ⊢
        refine fe aS _ H0 σ3 H3 s3 n2 (fun _ _ => False) _ (S4.step k3 st3) (LF _) (mne _ _ _ _ _ (fun y n3 q5 v H4 k4 st4 r4 => ?_) q4)
        have k5 := kk.trans k4
        refine ⟨xs, k5 _ _ hd hDs, ?_, n3, acc ++ [y], xs ++ [v], ?_, fun b u e z => ?_, upd_same, ?_, by rw [List.length_append]; exact Nat.succ_le_succ hl, q5⟩
        · rw [rl.length]
          exact Nat.lt_of_le_of_lt hl (lim_lt (Nat.lt_of_lt_of_le hi hlim))
        · exact (S'.step k5 st4).poke (.inr rfl) hDs (k5 _ _ hd hDs) hD0 (fun _ z => nomatch z) (fun _ _ z => nomatch z)
        · rw [upd_ne (ne_of_none e hD)]
          exact k5 _ _ (k1 _ _ e z) z
        · have e2 : AV aS (fun b => A1 b ∨ b = Dn) OB σ3 = AV aS (fun b => A1 b ∨ b = Dn) OB σ := a3.trans eW
          rw [e2] at r4
          exact RepL.mono (sub_poke (A := AV aS (fun b => A1 b ∨ b = Dn) OB σ) (.inl (.inr rfl)) (k5 _ _ hd hDs) (fun _ z => nomatch z)) _ _ ((rl.kp k5 S'.st AV.st).app (RepL.cons r4 RepL.nil))
      | false =>
        rw [if_neg (by decide)] at q4 ⊢
        exact ⟨n2, acc, xs, S'.step kk st3, k1.trans kk, kk _ _ hd hDs, rl.kp kk S'.st AV.st, Nat.le_succ_of_le hl, q4⟩
  · obtain ⟨n', acc, xs, S', k1, hd, rl, hl, q'⟩ := z
    rw [List.drop_length] at q'
    refine q' Dn H' hDH (kp.trans k1) S'.st ⟨xs, hd, ?_⟩
    rw [AV.plus, eA] at rl
    exact rl
theorem vf_lc {own : List (Str × Nat)} {ws : List Nat} (hc : X.calm = true) (hN : X.N.Nodup) (hi : VI X E O OB hid tg iter mi) (ok : BlkOk X.N X.env.scope scope own) (hown : ∀ j ∈ own.map (·.2), j ∉ OB) (hws : ∀ j ∈ ws, j ∈ own.map (·.2))
    (hg : ∀ c : Bk, VG (Cx.bk X scope c) OB ws tg g) (ht : ∀ c : Bk, VTs (Cx.bk X scope c) E OB ifs mt) (he : ∀ c : Bk, VE (Cx.bk X scope c) E OB e me) (hs : ∀ x, foldedSetIterable iter X.env x = pure x := by intro _; rfl) :
    VF X E O (.ListComp e [⟨tg, iter, ifs, 0⟩] scope pos) (eLc mi (own.map (·.2) ++ hid) g mt me) := by
  obtain ⟨mn, wi, gt, tt, te, pi, pg, pt, pe, f⟩ := vf_lcAt hc hN hi ok hown hws hg ht he
  refine ⟨mn, _, pe_lc hc hN pi ok (fun s H C cl fp => pg (s, H, C, cl, fp)) (fun s H C cl fp => pt (s, H, C, cl, fp)) (fun s H C cl fp => pe (s, H, C, cl, fp)) hs, fun aS A0 H0 σ H s n xq Q S L hm => f aS A0 H0 σ H s n xq Q S L hm⟩
/-- name = [..]: the name owns the new list -/
theorem vs_setLc {own : List (Str × Nat)} {ws : List Nat} {i : Nat} {y : Str} {py spos : Pos} {OL : List Nat} (hiO : i ∉ O) (hi0 : i ≠ 0) (hc : X.calm = true) (hN : X.N.Nodup) (hy : X.N[i]? = some y) (hyl : X.env.scope.names.lookup y = some .local)
    (hsw : swapsWith (.ListComp e [⟨tg, iter, ifs, 0⟩] scope pos) (some (.Name y py)) spos.line X.env = pure true) (hi : VI X E O OB hid tg iter mi) (ok : BlkOk X.N X.env.scope scope own) (hown : ∀ j ∈ own.map (·.2), j ∉ OB) (hws : ∀ j ∈ ws, j ∈ own.map (·.2))
    (hg : ∀ c : Bk, VG (Cx.bk X scope c) OB ws tg g) (ht : ∀ c : Bk, VTs (Cx.bk X scope c) E OB ifs mt) (he : ∀ c : Bk, VE (Cx.bk X scope c) E OB e me) (hs : ∀ x, foldedSetIterable iter X.env x = pure x := by intro _; rfl) :
    VS X E O (i :: O) OL (.Assign [.Name y py] (.ListComp e [⟨tg, iter, ifs, 0⟩] scope pos) spos) (fun xq de s n => i < s.length ∧ sSet i (eLc mi (own.map (·.2) ++ hid) g mt me) xq de s n) := by
  obtain ⟨mn, wi, gt, tt, te, pi, pg, pt, pe, f⟩ := vf_lcAt hc hN hi ok hown hws hg ht he
  refine ⟨_, ps_setLc hc hN hy hyl hsw pi ok (fun s H C cl fp => pg (s, H, C, cl, fp)) (fun s H C cl fp => pt (s, H, C, cl, fp)) (fun s H C cl fp => pe (s, H, C, cl, fp)) hs, fun aS A0 H0 σ H s n xq de De S L k h => ?_⟩
  exact f aS A0 H0 σ H s n xq _ S L (mn _ _ _ _ _ (fun d n' q a H' ha kp st o => k.nx _ H' _ n' (S.own hiO hi0 h.1 ha kp st o) q) h.2)
end
end DL
namespace DL
open PySem PySem.Spec PyProof.Rows L2
/-! ### defs -/
structure FSp where
  run : List D → Nat → (D → Nat → Prop) → XQ → Prop
  mn : ∀ ds n Q Q' xq, (∀ d n', Q d n' → Q' d n') → run ds n Q xq → run ds n Q' xq
/-- a plain function of data, where pre holds -/
def FSp.fn (pre : List D → Prop) (f : List D → D) : FSp := ⟨fun ds n Q _ => pre ds ∧ Q (f ds) n, fun _ _ _ _ _ hq h => ⟨h.1, hq _ _ h.2⟩⟩
theorem AV.of {aS : Addr} {A : AS} (h : A aS) : AV aS A [] [] = A := by
  funext b
  refine propext ⟨fun z => ?_, fun z => .inl z⟩
  rcases z with z | z | ⟨j, hj, _⟩
  · exact z
  · exact z ▸ h
  · cases hj
/-- the promise of a def, over values and heaps -/
def lift (K : PySem.W.Frag) (len : Nat) (sp : FSp) : Sp := fun vs H Q E => ∃ (aS : Addr) (A0 : AS) (ds : List D) (n : Nat) (xq : XQ), ds.length = len ∧ RepL K aS H (AV aS A0 [] []) ds vs ∧ StA K aS H n ∧ (∀ a, A0 a → ∃ u, H a = some u) ∧ LX K E aS A0 H xq ∧
  sp.run ds n (fun d n' => ∀ v H', KpS aS H H' → StA K aS H' n' → Rep K aS H' (AV aS A0 [] []) d v → Q v H') xq
def startD (N : List Str) (ds : List D) : Ev := ds.map some ++ List.replicate (N.length - ds.length) none
theorem start_get {α : Type} {l : List α} {k i : Nat} {x : α} (h : (l.map some ++ List.replicate k none)[i]? = some (some x)) : l[i]? = some x := by
  by_cases hi : i < l.length
  · rw [List.getElem?_append_left (by simpa using hi), List.getElem?_map] at h
    cases e : l[i]? with
    | none => rw [e] at h; cases h
    | some y => rw [e] at h; cases h; rfl
  · rw [List.getElem?_append_right (by simpa using hi), List.getElem?_replicate] at h
    split at h <;> cases h
theorem get_start {α : Type} {l : List α} {k i : Nat} {x : α} (h : l[i]? = some x) : (l.map some ++ List.replicate k none)[i]? = some (some x) := by
  have hi := (List.getElem?_eq_some_iff.mp h).1
  rw [List.getElem?_append_left (by simpa using hi), List.getElem?_map, h]
  rfl
section
variable {P : Program} {w : World} {K : PySem.W.Frag} {mg : Str → Option Value} {base : Heap} {x qual : Str} {params : Arguments} {body : List Stmt} {scope : Scope} {dvs : List V} {kws : List (Str × V)} {f : Addr} {fd : FuncData}
theorem SR.start {aS : Addr} {A0 : AS} {H : Hp} {N : List Str} {ds : List D} {vs : List V} {n : Nat} (r : RepL K aS H (AV aS A0 [] []) ds vs) (st : StA K aS H n) (av : ∀ a, A0 a → ∃ u, H a = some u) : SR K aS [] ⟨A0, none⟩ H (L2.start N vs) H (startD N ds) n := by
  have eA : AV aS A0 [] (L2.start N vs) = AV aS A0 [] [] := by
    funext b
    refine propext ⟨fun z => ?_, fun z => av_nil b z⟩
    rcases z with z | z | ⟨j, hj, _⟩
    · exact .inl z
    · exact .inr (.inl z)
    · cases hj
  refine ⟨?_, fun i d e _ => ?_, (fun i hi => nomatch hi), (fun i j b hi => nomatch hi), KpS.refl, st, av, (fun hi => nomatch hi)⟩
  · unfold L2.start startD
    rw [List.length_append, List.length_append, List.length_map, List.length_map, List.length_replicate, List.length_replicate, r.length]
  · obtain ⟨v, ev, rv⟩ := r.get (start_get e)
    rw [eA]
    exact ⟨v, get_start ev, rv⟩
theorem dfn {N ps : List Str} {k : Nat} {sp : FSp} {m : SM} {O' : List Nat} (F : FunD K x qual params body scope dvs kws f fd) (Sc : FnScope N ps scope)
    (hb : ∀ (cdv : Value) (A : Around) (outer : List Env) (s : Shared) (H : Hp) (E : XK), Room k (A.deeper (envOfC qual scope s.heap.objs.size f cdv)) → VSs (cxOf CX0 P w K mg base N qual scope f cdv A outer s H E).nox E [] O' [] body m)
    (hm : ∀ ds n Q xq, ds.length = ps.length → sp.run ds n Q xq → m xq { nx := fun _ n' => Q .non n', rt := Q } (startD N ds) n) : FnOk P w K mg base CX0 (k + 1) f fd ps (lift K ps.length sp) := by
  refine F.ok Sc (fun vs H Q E h => ?_) (fun cdv A outer s H vs Q E hr h => ?_)
  · obtain ⟨aS, A0, ds, n, xq, hl, r, _⟩ := h
    rw [r.length, hl]
  · obtain ⟨aS, A0, ds, n, xq, hl, r, st, av, L, q⟩ := h
    obtain ⟨t, p, ft⟩ := hb cdv A outer s H E hr
    refine ⟨t, p.nox, ft aS ⟨A0, none⟩ H _ H _ n xq _ _ (SR.start r st av) L ?_ (hm ds n _ xq hl q)⟩
    refine ⟨fun σ' H' s' n' S' q' => q' .non H' S'.fr S'.st rep_non, fun v H' d n' kp st' r' q' => q' v H' kp st' r', fun _ _ _ _ _ z => z.elim, fun _ _ _ _ _ z => z.elim⟩
end
/-! ### calls -/
def eCall (len : Nat) (sp : FSp) (dds : List D) (m : EM (List D)) : EM D := fun xq s n Q => m xq s n fun ds n1 => (ds ++ dds).length = len ∧ sp.run (ds ++ dds) n1 Q xq
section
variable {X : Cx} {E : XK} {O : List Nat} {e o : Expr} {es : List Expr} {mo : EM D} {ml : EM (List D)} {pos p : Pos} {x : Str} {f C : Addr} {fd : FuncData} {ps : List Str} {k : Nat} {sp : FSp} {dds : List D} {dvs : List V} {us : List Value}
theorem mn_call {len : Nat} (h : Mn ml) : Mn (eCall len sp dds ml) := fun xq s n Q Q' hq w => h _ _ _ _ _ (fun ds n1 w => ⟨w.1, sp.mn _ _ _ _ _ hq w.2⟩) w
abbrev ET : XK := fun _ _ _ => True
theorem passT : Passes CX0 X ET := fun _ _ _ _ _ _ _ h => h.elim
/-- the promise's question, from the caller's state -/
theorem SR.call {K : PySem.W.Frag} {aS : Addr} {A0 : A0T} {H0 H : Hp} {σ : L2.St} {s : Ev} {n len : Nat} {ds : List D} {vs : List V} {xq : XQ} {Q : VK} (S : SR K aS O A0 H0 σ H s n) (hl : ds.length = len) (r : RepL K aS H (AV aS A0 O σ) ds vs)
    (q : sp.run ds n (fun d n' => ∀ v H', KpS aS H H' → StA K aS H' n' → Rep K aS H' (AV aS A0 O σ) d v → Q v H') xq) : lift K len sp vs H Q ET := by
  have eA : AV aS (AV aS A0 O σ) [] [] = AV aS A0 O σ := AV.of AV.st
  refine ⟨aS, AV aS A0 O σ, ds, n, xq, hl, by rw [eA]; exact r, S.st, S.cn.dom, fun _ _ _ _ _ _ _ _ _ => trivial, ?_⟩
  rw [eA]
  exact q
theorem ve_call (F : FnOk X.prog X.w X.K X.mg X.base CX0 k f fd ps (lift X.K ps.length sp)) (hr : Room k X.A) (hg : Gl X x) (hm : X.mg x = some (.ref f)) (hk : PySem.W.keepIn X.K (.ref f) = true) (hb : Binds X.K fd ps us) (hd : Vals dvs us)
    (hdd : ∀ aS H A, RepL X.K aS H A dds dvs) (ha : VA Rep X E O (e :: es) ml) (hdb : (x == ("__debug__" : Str)) = false := by decide)
    (he : starEach (e :: es) X.env = (false, eval e X.env) :: starEach es X.env := by rfl) (hpl : (backTo pos (starEach es X.env)).any (·.1) = false := by rfl) : VE X E O (.Call (.Name x p) (e :: es) [] pos) (eCall ps.length sp dds ml) := by
  obtain ⟨mn, t, pa, ft⟩ := ha
  refine ⟨mn_call mn, _, pe_call F hr hg hm hk hb hd passT pa hdb he hpl, fun aS A0 H0 σ H s n xq Q S L hm => ?_⟩
  refine ft aS A0 H0 σ H s n xq _ S L (mn _ _ _ _ _ (fun ds n1 q vs H1 k1 st1 r1 => ?_) hm)
  exact (S.step k1 st1).call q.1 ((RL.repL r1).app (hdd aS H1 _)) (sp.mn _ _ _ _ _ (fun d n' w v H' kp st r => w v H' (k1.trans kp) st r) q.2)
theorem ve_call0 (F : FnOk X.prog X.w X.K X.mg X.base CX0 k f fd ps (lift X.K ps.length sp)) (hr : Room k X.A) (hg : Gl X x) (hm : X.mg x = some (.ref f)) (hk : PySem.W.keepIn X.K (.ref f) = true) (hb : Binds X.K fd ps us) (hd : Vals dvs us)
    (hdd : ∀ aS H A, RepL X.K aS H A dds dvs) (hdb : (x == ("__debug__" : Str)) = false := by decide) : VE X E O (.Call (.Name x p) [] [] pos) (eCall ps.length sp dds eNil) := by
  refine ⟨mn_call (fun _ _ _ _ _ hq h => hq _ _ h), _, pe_call0 F hr hg hm hk hb hd passT hdb, fun aS A0 H0 σ H s n xq Q S L hm => ?_⟩
  exact S.call hm.1 (hdd aS H _) hm.2
/-- a method of an instance of C -/
def eMeth (C : Addr) (mn : Str) (len : Nat) (sp : FSp) (dds : List D) (mo : EM D) (m : EM (List D)) : EM D := fun xq s n Q => mo xq s n fun d n1 => ∃ fs, d = .obj C fs ∧ fs.lookup mn = none ∧ m xq s n1 fun ds n2 => (d :: (ds ++ dds)).length = len ∧ sp.run (d :: (ds ++ dds)) n2 Q xq
theorem repF_look {K : PySem.W.Frag} {aS : Addr} {H : Hp} {A : AS} (g : Str) : ∀ {fs : List (Str × D)} {ys : List (Str × V)}, RepF K aS H A fs ys → (fs.lookup g = none ∧ ys.lookup g = none) ∨ ∃ d v, fs.lookup g = some d ∧ ys.lookup g = some v ∧ Rep K aS H A d v
  | [], ys, h => by
    rw [RepF] at h
    subst h
    exact .inl ⟨rfl, rfl⟩
  | (k, d) :: fs, ys, h => by
    rw [RepF] at h
    obtain ⟨v, vr, e, r, q⟩ := h
    subst e
    rw [List.lookup_cons, List.lookup_cons]
    cases hb : g == k with
    | true => exact .inr ⟨d, v, rfl, rfl, r⟩
    | false => exact repF_look g q
theorem mn_meth {mn : Str} {len : Nat} (h1 : Mn mo) (h : Mn ml) : Mn (eMeth C mn len sp dds mo ml) := fun xq s n Q Q' hq w => h1 _ _ _ _ _ (fun d n1 ⟨fs, e1, e2, w⟩ => ⟨fs, e1, e2, h _ _ _ _ _ (fun ds n2 w => ⟨w.1, sp.mn _ _ _ _ _ hq w.2⟩) w⟩) w
theorem ve_meth {mn : Str} {pe : Expr → TE → Prop} (ho : VE X E O o mo) (ha : VA Rep X E O es ml)
    (hp : ∀ {to : TE} {t : TA}, PE X o to → PA X es t → PE X e (tMeth C mn (lift X.K ps.length sp) dvs ET to t)) (hdd : ∀ aS H A, RepL X.K aS H A dds dvs) : VE X E O e (eMeth C mn ps.length sp dds mo ml) := by
  obtain ⟨mn1, t1, p1, f1⟩ := ho
  obtain ⟨mn2, t2, p2, f2⟩ := ha
  refine ⟨mn_meth mn1 mn2, _, hp p1 p2, fun aS A0 H0 σ H s n xq Q S L hm => ?_⟩
  refine f1 aS A0 H0 σ H s n xq _ S L (mn1 _ _ _ _ _ (fun d n1 q v H1 k1 st1 r1 => ?_) hm)
  obtain ⟨fs, ed, hl, q⟩ := q
  subst ed
  have r1' := r1
  rw [Rep] at r1'
  obtain ⟨a, dx, ys, ev, na, hq, rf⟩ := r1'
  have hy : ys.lookup mn = none := by
    rcases repF_look mn rf with z | ⟨_, _, z, _⟩
    · exact z.2
    · rw [hl] at z; cases z
  refine ⟨a, dx, ys, ev, hq, hy, f2 aS A0 H0 σ H1 s n1 xq _ (S.step k1 st1) L (mn2 _ _ _ _ _ (fun ds n2 q2 vs H2 k2 st2 r2 => ?_) q)⟩
  have kk := k1.trans k2
  exact (S.step kk st2).call q2.1 (RepL.cons (r1.kp k2 st1 AV.st) ((RL.repL r2).app (hdd aS H2 _))) (sp.mn _ _ _ _ _ (fun d n' w v H' kp st r => w v H' (kk.trans kp) st r) q2.2)
/-! ### fields -/
def eFld (C : Addr) (g : Str) (m : EM D) : EM D := fun xq s n Q => m xq s n fun d n1 => ∃ fs v, d = .obj C fs ∧ fs.lookup g = some v ∧ Q v n1
theorem ve_fld {g : Str} (cl : Cls X.K C) (na : NoAttr X.K C g) (h : VB X E O o mo) (hb : attributeBase o g X.env (eval o X.env) = eval o X.env := by rfl) : VE X E O (.Attribute o g pos) (eFld C g mo) := by
  obtain ⟨mn, t, p, f⟩ := h
  refine ⟨fun xq s n Q Q' hq w => mn _ _ _ _ _ (fun d n1 ⟨fs, v, e1, e2, q⟩ => ⟨fs, v, e1, e2, hq _ _ q⟩) w, _, pe_fld p hb, fun aS A0 H0 σ H s n xq Q S L hm => ?_⟩
  refine f aS A0 H0 σ H s n xq _ S L (mn _ _ _ _ _ (fun d n1 q v H1 k1 st1 r1 => ?_) hm)
  obtain ⟨fs, v', ed, hl, q⟩ := q
  subst ed
  obtain ⟨a, dx, ys, ev, na', hq, rf⟩ := r1
  rcases repF_look g rf with z | ⟨d, u, z1, z2, z3⟩
  · rw [hl] at z; cases z.1
  · rw [hl] at z1
    cases z1
    exact ⟨a, C, dx, ys, u, ev, hq, cl, na, z2, q u H1 k1 st1 z3⟩
def putFD (f : Str) (v : D) : List (Str × D) → List (Str × D)
  | [] => [(f, v)]
  | (g, x) :: r => if g = f then (g, v) :: r else (g, x) :: putFD f v r
theorem repF_put {K : PySem.W.Frag} {aS : Addr} {H : Hp} {A : AS} {g : Str} {d : D} {v : V} (r : Rep K aS H A d v) : ∀ {fs : List (Str × D)} {ys : List (Str × V)}, RepF K aS H A fs ys → RepF K aS H A (putFD g d fs) (putF g v ys)
  | [], ys, h => by
    rw [RepF] at h
    subst h
    rw [putFD, putF, RepF]
    exact ⟨v, [], rfl, r, by rw [RepF]⟩
  | (k, d') :: fs, ys, h => by
    rw [RepF] at h
    obtain ⟨v', vr, e, r', q⟩ := h
    subst e
    rw [putFD, putF]
    split
    · rw [RepF]
      exact ⟨v, vr, rfl, r, q⟩
    · rw [RepF]
      exact ⟨v', _, rfl, r', repF_put r q⟩
theorem repF_length {K : PySem.W.Frag} {aS : Addr} {H : Hp} {A : AS} : ∀ {fs : List (Str × D)} {ys : List (Str × V)}, RepF K aS H A fs ys → ys.length = fs.length
  | [], ys, h => by
    rw [RepF] at h
    rw [h]
    rfl
  | (k, d') :: fs, ys, h => by
    rw [RepF] at h
    obtain ⟨v', vr, e, r', q⟩ := h
    rw [e, List.length_cons, List.length_cons, repF_length q]
def sFldD (i : Nat) (C : Addr) (g : Str) (m : EM D) : SM := fun xq de s n => m xq s n fun d n' => ∃ fs, s[i]? = some (some (.obj C fs)) ∧ fs.length < 1000 ∧ de.nx (s.set i (some (.obj C (putFD g d fs)))) n'
/-- self.f = e, self owned -/
theorem vs_fld {i : Nat} {g y : Str} {m : EM D} {OL : List Nat} {p2 : Pos} (hi : i ∈ O) (hN : X.N[i]? = some y) (hv : Vis X.env.scope y) (cl : Cls X.K C) (na : NoAttr X.K C g) (h : VE X E O e m) (hs : swapsWith e (some (.Attribute (.Name y p2) g p)) pos.line X.env = pure false := by rfl)
    (hd : (y == ("__debug__" : Str)) = false := by decide) (hcd : (y == ("__classdict__" : Str)) = false := by decide) : VS X E O O OL (.Assign [.Attribute (.Name y p2) g p] e pos) (sFldD i C g m) := by
  obtain ⟨mn, t, pe, f⟩ := h
  refine ⟨_, ps_fld (pe_var hN hv hd hcd) pe hs, fun aS A0 H0 σ H s n xq de De S L k h => f aS A0 H0 σ H s n xq _ S L (mn _ _ _ _ _ (fun d n' q v H' kp st r => ?_) h)⟩
  obtain ⟨fs, e, hl, q⟩ := q
  have S' := S.step kp st
  obtain ⟨d0, a, e1, e2, e3, e4, e5, e6⟩ := S'.ow i hi
  rw [e] at e1
  cases e1
  obtain ⟨dx, ys, ha, rf⟩ := e6
  have hA : AV aS A0 O σ a := .inr (.inr ⟨i, hi, e2⟩)
  refine ⟨_, e2, a, C, dx, ys, rfl, ha, cl, na, by rw [repF_length rf]; exact hl, k.nx _ _ _ n' (S'.mut (d := .obj C (putFD g d fs)) hi e2 ha (fun _ z => nomatch z) (fun _ _ z => nomatch z) ⟨dx, _, upd_same, ?_⟩) q⟩
  exact RepF.mono (sub_poke hA ha fun _ z => nomatch z) _ _ (repF_put r rf)
end
/-! ### making an instance -/
def liftI (K : PySem.W.Frag) (C : Addr) (len : Nat) (sp : FSp) : Sp := fun vs H Q E => ∃ (aS : Addr) (A0 : AS) (ds : List D) (n : Nat) (xq : XQ) (x dx : Addr) (ws : List V), vs = .ref x :: ws ∧ ds.length + 1 = len ∧ H x = some (.ins C dx []) ∧ ¬ A0 x ∧ x ≠ aS ∧
  RepL K aS H (fun b => AV aS A0 [] [] b ∨ b = x) ds ws ∧ StA K aS H n ∧ (∀ a, A0 a → ∃ u, H a = some u) ∧ (∀ A1 H1, LX K E aS A1 H1 xq) ∧
  sp.run ds n (fun d n' => ∃ fs, d = .obj C fs ∧ ∀ H' dx' ys, (∀ b u, H b = some u → b ≠ aS → b ≠ x → H' b = some u) → StA K aS H' n' → H' x = some (.ins C dx' ys) → RepF K aS H' (fun b => AV aS A0 [] [] b ∨ b = x) fs ys → Q .non H') xq
section
variable {P : Program} {w : World} {K : PySem.W.Frag} {mg : Str → Option Value} {base : Heap} {x qual : Str} {params : Arguments} {body : List Stmt} {scope : Scope} {dvs : List V} {kws : List (Str × V)} {f C : Addr} {fd : FuncData}
theorem SR.startI {aS a dx : Addr} {A0 : AS} {H : Hp} {N : List Str} {ds : List D} {ws : List V} {n : Nat} (hx : H a = some (.ins C dx [])) (na : ¬ A0 a) (ns : a ≠ aS) (r : RepL K aS H (fun b => AV aS A0 [] [] b ∨ b = a) ds ws) (st : StA K aS H n) (av : ∀ a, A0 a → ∃ u, H a = some u) :
    SR K aS [0] ⟨A0, some a⟩ (fun b => if b = a then none else H b) (L2.start N (.ref a :: ws)) H (startD N (.obj C [] :: ds)) n ∧ AV aS A0 [0] (L2.start N (.ref a :: ws)) = fun b => AV aS A0 [] [] b ∨ b = a := by
  have e0 : (L2.start N (.ref a :: ws))[0]? = some (some (.ref a)) := rfl
  have eA : AV aS A0 [0] (L2.start N (.ref a :: ws)) = fun b => AV aS A0 [] [] b ∨ b = a := by
    funext b
    refine propext ⟨fun z => ?_, fun z => ?_⟩
    · rcases z with z | z | ⟨j, hj, e⟩
      · exact .inl (.inl z)
      · exact .inl (.inr (.inl z))
      · have hj : j = 0 := by simpa using hj
        subst hj
        rw [e0] at e
        cases e
        exact .inr rfl
    · rcases z with z | z
      · exact av_nil b z
      · exact .inr (.inr ⟨0, by simp, by rw [z]; exact e0⟩)
  refine ⟨⟨?_, fun i d e hi => ?_, fun i hi => ?_, fun i j b hi hj _ _ => ?_, fun b u e _ => ?_, st, av, fun _ b e => ?_⟩, eA⟩
  · unfold L2.start startD
    rw [List.length_append, List.length_append, List.length_map, List.length_map, List.length_replicate, List.length_replicate, List.length_cons, List.length_cons, r.length]
  · rw [eA]
    cases i with
    | zero => exact (hi (by simp)).elim
    | succ i =>
      have e2 := start_get e
      obtain ⟨v, ev, rv⟩ := r.get (i := i) (d := d) (by simpa using e2)
      exact ⟨v, get_start (by simpa using ev), rv⟩
  · have hi : i = 0 := by simpa using hi
    subst hi
    refine ⟨.obj C [], a, rfl, rfl, if_pos rfl, na, ns, dx, [], hx, by rw [RepF]⟩
  · have hi : i = 0 := by simpa using hi
    have hj : j = 0 := by simpa using hj
    rw [hi, hj]
  · by_cases z : b = a
    · rw [if_pos z] at e; cases e
    · rw [if_neg z] at e; exact e
  · cases e
    rfl
theorem dfnI {N ps : List Str} {k : Nat} {sp : FSp} {m : SM} {O' : List Nat} (F : FunD K x qual params body scope dvs kws f fd) (Sc : FnScope N ps scope) (h0 : 0 ∈ O')
    (hb : ∀ (cdv : Value) (A : Around) (outer : List Env) (s : Shared) (H : Hp) (E : XK), Room k (A.deeper (envOfC qual scope s.heap.objs.size f cdv)) → VSs (cxOf CX0 P w K mg base N qual scope f cdv A outer s H E).nox E [0] O' [] body m)
    (hm : ∀ ds n Q xq, ds.length + 1 = ps.length → sp.run ds n Q xq → m xq { nx := fun s' n' => ∃ fs, s'[0]? = some (some (.obj C fs)) ∧ Q (.obj C fs) n', rt := fun _ _ => False } (startD N (.obj C [] :: ds)) n) : FnOk P w K mg base CX0 (k + 1) f fd ps (liftI K C ps.length sp) := by
  refine F.ok Sc (fun vs H Q E h => ?_) (fun cdv A outer s H vs Q E hr h => ?_)
  · obtain ⟨aS, A0, ds, n, xq, a, dx, ws, ev, hl, hx, na, ns, r, _⟩ := h
    rw [ev, List.length_cons, r.length, hl]
  · obtain ⟨aS, A0, ds, n, xq, a, dx, ws, ev, hl, hx, na, ns, r, st, av, L, q⟩ := h
    subst ev
    obtain ⟨t, p, ft⟩ := hb cdv A outer s H E hr
    obtain ⟨S, eA⟩ := SR.startI (N := N) hx na ns r st av
    refine ⟨t, p.nox, ft aS ⟨A0, some a⟩ _ _ H _ n xq _ _ S (L _ _) ?_ (hm ds n _ xq hl q)⟩
    refine ⟨fun σ' H' s' n' S' q' => ?_, fun v H' d n' kp st' r' q' => q'.elim, fun _ _ _ _ _ z => z.elim, fun _ _ _ _ _ z => z.elim⟩
    obtain ⟨fs, e, fs', e', q'⟩ := q'
    cases e'
    obtain ⟨d1, a1, z1, z2, z3, z4, z5, z6⟩ := S'.ow 0 h0
    rw [e] at z1
    cases z1
    have ea := S'.pn h0 a rfl
    rw [z2] at ea
    cases ea
    obtain ⟨dx', ys, hx', rf⟩ := z6
    refine q' H' dx' ys (fun b u hb nb nx => S'.fr b u ?_ nb) S'.st hx' (RepF.mono (sub_le fun b z => ?_) _ _ rf)
    · rw [if_neg nx]
      exact hb
    · rcases z with z | z
      · exact av_nil b z
      · exact .inr (.inr ⟨0, h0, by rw [z]; exact z2⟩)
end
def eMake (len : Nat) (sp : FSp) (dds : List D) (m : EM (List D)) : EM D := fun xq s n Q => m xq s n fun ds n1 => (ds ++ dds).length + 1 = len ∧ sp.run (ds ++ dds) n1 (fun d n2 => (∃ C fs, d = .obj C fs) ∧ Q d n2) xq
section
variable {X : Cx} {E : XK} {O : List Nat} {e : Expr} {es : List Expr} {ml : EM (List D)} {pos p : Pos} {x : Str} {f C : Addr} {fd : FuncData} {ps : List Str} {k : Nat} {sp : FSp} {dds : List D} {dvs : List V} {us : List Value}
theorem SR.make {K : PySem.W.Frag} {aS a dx : Addr} {A0 : A0T} {H0 H : Hp} {σ : L2.St} {s : Ev} {n len : Nat} {ds : List D} {vs : List V} {xq : XQ} {Q : VK} (S : SR K aS O A0 H0 σ H s n) (hl : ds.length + 1 = len) (r : RepL K aS H (AV aS A0 O σ) ds vs) (ha : H a = none) (hdx : H dx = none) (hne : dx ≠ a)
    (q : sp.run ds n (fun d n' => ∃ fs, d = .obj C fs ∧ ∀ H', KpS aS H H' → StA K aS H' n' → Own K aS H' (fun b => AV aS A0 O σ b ∨ b = a) a d → Q .non H') xq) : liftI K C len sp (.ref a :: vs) (upd (upd H dx (.own a)) a (.ins C dx [])) Q ET := by
  have eA : AV aS (AV aS A0 O σ) [] [] = AV aS A0 O σ := AV.of AV.st
  have ha1 : upd H dx (.own a) a = none := by rw [upd_ne (Ne.symm hne)]; exact ha
  have na : a ≠ aS := fun z => S.new ha (.inr (.inl z))
  have st1 : StA K aS (upd H dx (.own a)) n := S.st.upd hdx
  have r1 : RepL K aS (upd H dx (.own a)) (AV aS A0 O σ) ds vs := r.kp (KpS.upd hdx) S.st AV.st
  have up : ∀ b u, H b = some u → upd (upd H dx (.own a)) a (.ins C dx []) b = some u := fun b u e => by rw [upd_ne (ne_of_none e ha), upd_ne (ne_of_none e hdx)]; exact e
  refine ⟨aS, AV aS A0 O σ, ds, n, xq, a, dx, vs, rfl, hl, upd_same, S.new ha, na, ?_, st1.upd ha1, fun b hb => ?_, fun _ _ _ _ _ _ _ _ _ _ _ => trivial, sp.mn _ _ _ _ _ (fun d n' w => ?_) q⟩
  · rw [eA]
    exact RepL.mono (sub_new ha1) _ _ r1
  · obtain ⟨u, e⟩ := S.cn.dom b hb
    exact ⟨u, up _ _ e⟩
  · obtain ⟨fs, ed, w⟩ := w
    subst ed
    refine ⟨fs, rfl, fun H' dx' ys kp st hx rf => w H' (fun b u e nb => kp b u (up b u e) nb (ne_of_none e ha)) st ⟨dx', ys, hx, ?_⟩⟩
    rw [eA] at rf
    exact rf
theorem vf_make (M : Mk X.K C f) (F : FnOk X.prog X.w X.K X.mg X.base CX0 k f fd ps (liftI X.K C ps.length sp)) (hr : Room (k + 1) X.A) (hg : Gl X x) (hm : X.mg x = some (.ref C)) (hb : Binds X.K fd ps us) (hd : Vals dvs us)
    (hdd : ∀ aS H A, RepL X.K aS H A dds dvs) (hsp : ∀ ds n Q xq, sp.run ds n Q xq → sp.run ds n (fun d n' => (∃ fs, d = .obj C fs) ∧ Q d n') xq) (ha : VA Rep X E O (e :: es) ml) (hdb : (x == ("__debug__" : Str)) = false := by decide)
    (he : starEach (e :: es) X.env = (false, eval e X.env) :: starEach es X.env := by rfl) (hpl : (backTo pos (starEach es X.env)).any (·.1) = false := by rfl) : VF X E O (.Call (.Name x p) (e :: es) [] pos) (eMake ps.length sp dds ml) := by
  obtain ⟨mn, t, pa, ft⟩ := ha
  refine ⟨fun xq s n Q Q' hq w => mn _ _ _ _ _ (fun ds n1 w => ⟨w.1, sp.mn _ _ _ _ _ (fun d n2 w => ⟨w.1, hq _ _ w.2⟩) w.2⟩) w, _, pe_make M F hr hg hm hb hd passT pa hdb he hpl, fun aS A0 H0 σ H s n xq Q S L hm => ?_⟩
  refine ft aS A0 H0 σ H s n xq _ S L (mn _ _ _ _ _ (fun ds n1 q vs H1 k1 st1 r1 => ?_) hm)
  intro a dx ha hdx hne
  have S1 := S.step k1 st1
  refine S1.make q.1 ((RL.repL r1).app (hdd aS H1 _)) ha hdx hne (sp.mn _ _ _ _ _ (fun d n' w => ?_) (hsp _ _ _ _ q.2))
  obtain ⟨⟨fs, ed⟩, _, w⟩ := w
  refine ⟨fs, ed, fun H' kp st o => ⟨rfl, w a H' ?_ (k1.trans kp) st o⟩⟩
  refine Option.eq_none_iff_forall_ne_some.mpr fun u z => ?_
  rw [k1 _ _ z fun y => S1.new ha (.inr (.inl y))] at ha
  cases ha
end
end DL
namespace DL
open PySem PySem.Spec PyProof.Rows L2
section
variable {K : PySem.W.Frag} {aS a p : Addr} {H H' H0 : Hp} {A0 : A0T} {O : List Nat} {σ : L2.St} {s : Ev} {n n' i : Nat} {d : D}
theorem AV.own (hi : i ∉ O) (hl : i < σ.length) : AV aS A0 (i :: O) (σ.set i (some (.ref a))) = AV aS (fun b => A0 b ∨ b = a) O σ := by
  rw [AV.plus]
  funext b
  refine propext ⟨fun z => ?_, fun z => ?_⟩
  · rcases z with z | z | ⟨j, hj, e⟩
    · exact .inl (.inl z)
    · exact .inl (.inr (.inl z))
    · by_cases hji : j = i
      · subst hji
        rw [List.getElem?_set_self hl] at e
        cases e
        exact .inr rfl
      · rw [set_other hji] at e
        exact .inl (.inr (.inr ⟨j, (List.mem_cons.mp hj).resolve_left hji, e⟩))
  · rcases z with (z | z | ⟨j, hj, e⟩) | z
    · exact .inl z
    · exact .inr (.inl z)
    · refine .inr (.inr ⟨j, List.mem_cons_of_mem _ hj, ?_⟩)
      rw [set_other (show j ≠ i from fun z => hi (z ▸ hj))]
      exact e
    · refine .inr (.inr ⟨i, List.mem_cons_self, ?_⟩)
      rw [z]
      exact List.getElem?_set_self hl
theorem SR.sub (S : SR K aS O A0 H0 σ H s n) (ha : H a = none) (k : KpS aS H H') : Sub K H H' (AV aS A0 O σ) (fun b => AV aS A0 O σ b ∨ b = a) := by
  obtain ⟨ys, hs⟩ := S.st.lst
  have ne : ∀ b, ¬ AV aS A0 O σ b → b ≠ aS := fun b h e => h (.inr (.inl e))
  refine ⟨fun b xs h q => ⟨fun z => z.elim h (ne_of_none q ha), k _ _ q (ne b h)⟩, fun b xs q => TpA.kp k hs q, fun b ys h q => ⟨fun z => z.elim h ?_, Rd.kp k (ne b h) q⟩, fun b C dx ys h q => ⟨fun z => z.elim h (ne_of_none q ha), k _ _ q (ne b h)⟩⟩
  rcases q with q | ⟨_, q⟩
  · exact ne_of_none q ha
  · exact ne_of_none q ha
/-- behind an expression that made p, p kept for oneself -/
theorem SR.stepA (S : SR K aS O A0 H0 σ H s n) (k : KpS aS H H') (t : StA K aS H' n') (hp : H p = none) (ho : ∃ o, H' p = some o) : SR K aS O ⟨fun b => A0 b ∨ b = p, A0.z⟩ H0 σ H' s n' := by
  refine ⟨S.len, fun j d e hj => ?_, fun j hj => ?_, S.ds, S.fr.trans k, t, fun b hb => ?_, S.pn⟩
  · rw [AV.plus]
    obtain ⟨v, ev, r⟩ := S.sh j d e hj
    exact ⟨v, ev, Rep.mono (S.sub hp k) _ _ r⟩
  · rw [AV.plus]
    obtain ⟨d, b, e1, e2, e3, e4, e5, e6⟩ := S.ow j hj
    refine ⟨d, b, e1, e2, e3, fun z => z.elim e4 fun z => S.new hp (.inr (.inr ⟨j, hj, z ▸ e2⟩)), e5, ?_⟩
    cases d with
    | lst ds => obtain ⟨xs, e, q⟩ := e6; exact ⟨xs, k _ _ e e5, RepL.mono (S.sub hp k) _ _ q⟩
    | dic ds => obtain ⟨xs, e, q⟩ := e6; exact ⟨xs, k _ _ e e5, RepK.mono (S.sub hp k) _ _ q⟩
    | obj C ds => obtain ⟨dx, xs, e, q⟩ := e6; exact ⟨dx, xs, k _ _ e e5, RepF.mono (S.sub hp k) _ _ q⟩
    | _ => exact e6.elim
  · rcases hb with hb | hb
    · exact (S.step k t).av b hb
    · exact hb ▸ ho
theorem Own.there {A : AS} (h : Own K aS H A a d) : ∃ o, H a = some o := by
  cases d with
  | lst ds => obtain ⟨xs, e, q⟩ := h; exact ⟨_, e⟩
  | dic ds => obtain ⟨xs, e, q⟩ := h; exact ⟨_, e⟩
  | obj C ds => obtain ⟨dx, xs, e, q⟩ := h; exact ⟨_, e⟩
  | _ => exact h.elim
end
section
variable {X : Cx} {E : XK} {O OL : List Nat} {a b c e : Expr} {ma mb mc m : EM D} {pos : Pos} {i j : Nat} {x y : Str}
/-! two targets -/
def sPar (i j : Nat) (ma mb : EM D) : SM := fun xq de s n => ma xq s n fun d n1 => mb xq s n1 fun d' n2 => de.nx ((s.set i (some d)).set j (some d')) n2
theorem vs_par {px py pt : Pos} {kt k2 pt2} (hi : i ∉ O) (hj : j ∉ O) (hc : X.calm = true) (hN : X.N.Nodup) (hNi : X.N[i]? = some x) (hNj : X.N[j]? = some y) (hij : i ≠ j) (hx : X.env.scope.names.lookup x = some .local) (hy : X.env.scope.names.lookup y = some .local)
    (ha : VE X E O a ma) (hb : VE X E O b mb) (hw : swappedStores [.Tuple [.Name x px, .Name y py] kt pt] (.Tuple [a, b] k2 pt2) X.env = pure (some [x, y]))
    (hs : swapsWithSole [.Tuple [.Name x px, .Name y py] kt pt] (.Tuple [a, b] k2 pt2) pos.line X.env = pure false := by rfl) (hs1 : starEach [a, b] X.env = (false, eval a X.env) :: starEach [b] X.env := by rfl) (hs2 : starEach [b] X.env = (false, eval b X.env) :: starEach [] X.env := by rfl) :
    VS X E O O OL (.Assign [.Tuple [.Name x px, .Name y py] kt pt] (.Tuple [a, b] k2 pt2) pos) (sPar i j ma mb) := by
  obtain ⟨mna, ta, pa, fa⟩ := ha
  obtain ⟨mnb, tb, pb, fb⟩ := hb
  refine ⟨_, ps_par hc hN hNi hNj hij hx hy (pa_cons pa (pa_cons pb pa_nil hs2) hs1) hw hs, fun aS A0 H0 σ H s n xq de De S L k h => ?_⟩
  refine fa aS A0 H0 σ H s n xq _ S L (mna _ _ _ _ _ (fun d1 n1 q v1 H1 k1 st1 r1 => ?_) h)
  refine fb aS A0 H0 σ H1 s n1 xq _ (S.step k1 st1) L (mnb _ _ _ _ _ (fun d2 n2 q2 v2 H2 k2 st2 r2 => ?_) q)
  have S1 := (S.step (k1.trans k2) st2).set hi (r1.kp k2 st1 AV.st)
  exact ⟨v1, v2, rfl, k.nx _ _ _ _ (S1.set hj (by rw [AV.set hi]; exact r2)) q2⟩
theorem vs_parFF {px py pt : Pos} {kt k2 pt2} (hi : i ∉ O) (hj : j ∉ O) (hi0 : i ≠ 0) (hj0 : j ≠ 0) (hc : X.calm = true) (hN : X.N.Nodup) (hNi : X.N[i]? = some x) (hNj : X.N[j]? = some y) (hij : i ≠ j) (hx : X.env.scope.names.lookup x = some .local) (hy : X.env.scope.names.lookup y = some .local)
    (ha : VF X E O a ma) (hb : VF X E O b mb) (hw : swappedStores [.Tuple [.Name x px, .Name y py] kt pt] (.Tuple [a, b] k2 pt2) X.env = pure (some [x, y]))
    (hs : swapsWithSole [.Tuple [.Name x px, .Name y py] kt pt] (.Tuple [a, b] k2 pt2) pos.line X.env = pure false := by rfl) (hs1 : starEach [a, b] X.env = (false, eval a X.env) :: starEach [b] X.env := by rfl) (hs2 : starEach [b] X.env = (false, eval b X.env) :: starEach [] X.env := by rfl) :
    VS X E O (j :: i :: O) OL (.Assign [.Tuple [.Name x px, .Name y py] kt pt] (.Tuple [a, b] k2 pt2) pos) (fun xq de s n => i < s.length ∧ j < s.length ∧ sPar i j ma mb (fun _ _ => False) de s n) := by
  obtain ⟨mna, ta, pa, fa⟩ := ha
  obtain ⟨mnb, tb, pb, fb⟩ := hb
  refine ⟨_, ps_par hc hN hNi hNj hij hx hy (pa_cons pa (pa_cons pb pa_nil hs2) hs1) hw hs, fun aS A0 H0 σ H s n xq de De S L k h => ?_⟩
  obtain ⟨hl1, hl2, h⟩ := h
  have LF : ∀ A1, LX X.K E aS A1 H0 (fun _ _ => False) := fun _ _ _ _ _ _ _ _ _ z => z.elim
  refine fa aS A0 H0 σ H s n _ _ S (LF _) (mna _ _ _ _ _ (fun d1 n1 q p1 H1 z1 k1 st1 o1 => ?_) h)
  have S1 := S.stepA k1 st1 z1 o1.there
  refine fb aS _ H0 σ H1 s n1 _ _ S1 (LF _) (mnb _ _ _ _ _ (fun d2 n2 q2 p2 H2 z2 k2 st2 o2 => ?_) q)
  have Sa := S.own hi hi0 hl1 z1 k1 st1 o1
  have hlσ : i < σ.length := by rw [S.len]; exact hl1
  refine ⟨_, _, rfl, k.nx _ _ _ _ (Sa.own (fun z => (List.mem_cons.mp z).elim (fun z => hij z.symm) hj) hj0 (by rw [List.length_set]; exact hl2) z2 k2 st2 ?_) q2⟩
  rw [AV.own hi hlσ]
  exact o2
/-! f.append(xs.pop(e)) -/
theorem RepL.erase {K : PySem.W.Frag} {aS : Addr} {H : Hp} {A : AS} : ∀ {ds : List D} {vs : List V} (k : Nat), RepL K aS H A ds vs → RepL K aS H A (ds.eraseIdx k) (vs.eraseIdx k)
  | [], _, _, h => by rw [RepL] at h; rw [h]; exact RepL.nil
  | d :: ds, vs, 0, h => by
    rw [RepL] at h
    obtain ⟨v, vr, e, r, q⟩ := h
    rw [e]
    exact q
  | d :: ds, vs, k + 1, h => by
    rw [RepL] at h
    obtain ⟨v, vr, e, r, q⟩ := h
    rw [e]
    exact RepL.cons r (RepL.erase k q)
theorem seq_nat {k n : Nat} (h : k < n) : seqIndex? (k : Int) n = some k := by
  have e : ixN n (k : Int) = some k := by
    unfold ixN
    rw [if_pos (by omega), if_pos (by omega)]
    simp
  exact (ixN_seq e).1
theorem vs_appPop {p1 p2 ap cp ap2 cp2 : Pos} (hij : j ≠ i) (hi : i ∈ O) (hj : j ∈ O) (hNi : X.N[i]? = some x) (hvi : Vis X.env.scope x) (hNj : X.N[j]? = some y) (hvj : Vis X.env.scope y) (h : VE X E O e m)
    (hpe : ∀ {to tp : TE} {t : TA}, PE X (.Name y p1) to → PE X (.Name x p2) tp → PA X [e] t → PE X (.Call (.Attribute (.Name y p1) "append" ap) [.Call (.Attribute (.Name x p2) "pop" ap2) [e] [] cp2] [] cp) (tBM X.K "list" rAppend to (tCons (tBM X.K "list" rPopAt tp t) tNil)) := by
      intro to tp t h1 h2 h3; exact pe_bm PySem.F.plainAttrs_list PySem.F.slot_list_append PySem.F.type_list_append mt_append h1 (pa_cons (pe_bm PySem.F.plainAttrs_list PySem.F.slot_list_pop PySem.F.type_list_pop mt_popAt h2 h3) pa_nil))
    (hs : swapsWith (.Call (.Attribute (.Name y p1) "append" ap) [.Call (.Attribute (.Name x p2) "pop" ap2) [e] [] cp2] [] cp) none pos.line X.env = pure false := by rfl) (hst : starEach [e] X.env = (false, eval e X.env) :: starEach [] X.env := by rfl)
    (hd : (x == ("__debug__" : Str)) = false := by decide) (hcd : (x == ("__classdict__" : Str)) = false := by decide) (hd2 : (y == ("__debug__" : Str)) = false := by decide) (hcd2 : (y == ("__classdict__" : Str)) = false := by decide) :
    VS X E O O OL (.Expr (.Call (.Attribute (.Name y p1) "append" ap) [.Call (.Attribute (.Name x p2) "pop" ap2) [e] [] cp2] [] cp) pos) (sAppPop j i m) := by
  obtain ⟨mn, t, p, f⟩ := h
  refine ⟨_, ps_expr (hpe (pe_var hNj hvj hd2 hcd2) (pe_var hNi hvi hd hcd) (pa_cons p pa_nil hst)) hs, fun aS A0 H0 σ H s n xq de De S L k h => ?_⟩
  obtain ⟨fs, ds, ef, es, h⟩ := h
  obtain ⟨af, xf, z1, z2, z3, z4⟩ := own_lst S hj ef
  obtain ⟨a, xs, y1, y2, y3, y4⟩ := own_lst S hi es
  refine ⟨_, z1, .inl ⟨rfl, _, SqL.of z3⟩, _, y1, .inl ⟨rfl, _, SqL.of y3⟩, f aS A0 H0 σ H s n xq _ S L (mn _ _ _ _ _ (fun d n' q v H' kp st r => ?_) h)⟩
  obtain ⟨kk, d', ed, hd', hl, hlf, q⟩ := q
  subst ed
  simp only [Rep] at r
  subst r
  have S' := S.step kp st
  have y3' := kp _ _ y3 y2
  have y4' := y4.kp kp S.st AV.st
  have z3' := kp _ _ z3 z2
  have z4' := z4.kp kp S.st AV.st
  obtain ⟨v, hv, rv⟩ := y4'.get hd'
  have hk : kk < xs.length := (List.getElem?_eq_some_iff.mp hv).1
  have hk2 : kk < ds.length := (List.getElem?_eq_some_iff.mp hd').1
  have naf : af ≠ a := fun z => hij (S.ds j i a hj hi (z ▸ z1) y1)
  refine ⟨a, xs, (kk : Int), kk, v, rfl, rfl, y3', by omega, by unfold LIM at hl; omega, seq_nat hk, hv, ?_⟩
  have S2 := S'.mutL hi y1 y3' (y4'.erase kk)
  have hA : AV aS A0 O σ a := .inr (.inr ⟨i, hi, y1⟩)
  have sub := sub_poke (K := X.K) (o' := .lst (xs.eraseIdx kk)) hA y3' (fun _ z => nomatch z)
  have z3'' : upd H' a (.lst (xs.eraseIdx kk)) af = some (.lst xf) := by rw [upd_ne naf]; exact z3'
  refine ⟨af, xf, v, rfl, rfl, z3'', by rw [z4.length]; exact lim_lt hlf, k.nx _ _ _ _ (S2.mutL hj z1 z3'' ?_) q⟩
  exact (RepL.mono sub _ _ z4').app (RepL.cons (Rep.mono sub _ _ rv) RepL.nil)
/-! chains of two comparisons -/
def eChain (f g : D → D → Option D) (ma mb mc : EM D) : EM D := fun xq s n Q => ma xq s n fun x n1 => mb xq s n1 fun y n2 => ∃ k, f x y = some (.bl k) ∧ if k = true then mc xq s n2 fun z n3 => ∃ d, g y z = some d ∧ Q d n3 else Q (.bl false) n2
def eChainT (f g : D → D → Option D) (ma mb mc : EM D) : EM Bool := fun xq s n Q => ma xq s n fun x n1 => mb xq s n1 fun y n2 => ∃ k, f x y = some (.bl k) ∧ if k = true then mc xq s n2 fun z n3 => ∃ b, g y z = some (.bl b) ∧ Q b n3 else Q false n2
end
end DL
namespace DL
open PySem PySem.Spec PyProof.Rows L2
/-! ### chains, is None, minus -/
section
variable {X : Cx} {E : XK} {O OL : List Nat} {a b c e : Expr} {ma mb mc m : EM D} {pos : Pos}
theorem mn_chain {f g : D → D → Option D} (h1 : Mn ma) (h2 : Mn mb) (h3 : Mn mc) : Mn (eChain f g ma mb mc) := fun xq s n Q Q' hq w => h1 _ _ _ _ _ (fun d1 n1 w => h2 _ _ _ _ _ (fun d2 n2 ⟨k, e, w⟩ => ⟨k, e, by
  cases k with
  | true => exact h3 _ _ _ _ _ (fun d3 n3 ⟨d, e, q⟩ => ⟨d, e, hq _ _ q⟩) w
  | false => exact hq _ _ w⟩) w) w
theorem mn_chainT {f g : D → D → Option D} (h1 : Mn ma) (h2 : Mn mb) (h3 : Mn mc) : Mn (eChainT f g ma mb mc) := fun xq s n Q Q' hq w => h1 _ _ _ _ _ (fun d1 n1 w => h2 _ _ _ _ _ (fun d2 n2 ⟨k, e, w⟩ => ⟨k, e, by
  cases k with
  | true => exact h3 _ _ _ _ _ (fun d3 n3 ⟨d, e, q⟩ => ⟨d, e, hq _ _ q⟩) w
  | false => exact hq _ _ w⟩) w) w
theorem ve_chain {op op' : CmpOp} {f g : D → D → Option D} (h : OpD X (compareOp op) f) (h' : OpD X (compareOp op') g) (ha : VB X E O a ma) (hb : VB X E O b mb) (hc : VB X E O c mc) (hm : lastMarks [op, op'] [b, c] = false := by rfl) : VE X E O (.Compare a [op, op'] [b, c] pos) (eChain f g ma mb mc) := by
  obtain ⟨mna, ta, pa, fa⟩ := ha
  obtain ⟨mnb, tb, pb, fb⟩ := hb
  obtain ⟨mnc, tc, pc, fc⟩ := hc
  obtain ⟨r, ho, hr⟩ := h
  obtain ⟨r', ho', hr'⟩ := h'
  refine ⟨mn_chain mna mnb mnc, _, pe_chain ho ho' pa pb pc hm, fun aS A0 H0 σ H s n xq Q S L hm => ?_⟩
  refine fa aS A0 H0 σ H s n xq _ S L (mna _ _ _ _ _ (fun d1 n1 q v1 H1 k1 st1 r1 => ?_) hm)
  refine fb aS A0 H0 σ H1 s n1 xq _ (S.step k1 st1) L (mnb _ _ _ _ _ (fun d2 n2 q2 v2 H2 k2 st2 r2 => ?_) q)
  obtain ⟨k, e, q2⟩ := q2
  refine hr aS H2 _ n2 d1 d2 _ v1 v2 _ (S.step (k1.trans k2) st2).cn (r1.kp k2 st1 AV.st) r2 e fun v H3 k3 st3 r3 => ?_
  rw [Rep] at r3
  refine ⟨k, r3, ?_⟩
  cases k with
  | false => rw [if_neg (by decide)] at q2 ⊢; exact q2 _ H3 ((k1.trans k2).trans k3) st3 rep_bl
  | true =>
    rw [if_pos rfl] at q2 ⊢
    refine fc aS A0 H0 σ H3 s n2 xq _ (S.step ((k1.trans k2).trans k3) st3) L (mnc _ _ _ _ _ (fun d3 n3 q3 v3 H4 k4 st4 r4 => ?_) q2)
    obtain ⟨d, e', q3⟩ := q3
    exact hr' aS H4 _ n3 d2 d3 d v2 v3 Q (S.step (((k1.trans k2).trans k3).trans k4) st4).cn ((r2.kp k3 st2 AV.st).kp k4 st3 AV.st) r4 e' fun v H' k st r => q3 v H' ((((k1.trans k2).trans k3).trans k4).trans k) st r
theorem vt_chain {op op' : CmpOp} {f g : D → D → Option D} (h : OpD X (compareOp op) f) (h' : OpD X (compareOp op') g) (ha : VB X E O a ma) (hb : VB X E O b mb) (hc : VB X E O c mc) (hm : lastMarks [op, op'] [b, c] = false := by rfl) : VT X E O (.Compare a [op, op'] [b, c] pos) (eChainT f g ma mb mc) := by
  obtain ⟨mna, ta, pa, fa⟩ := ha
  obtain ⟨mnb, tb, pb, fb⟩ := hb
  obtain ⟨mnc, tc, pc, fc⟩ := hc
  obtain ⟨r, ho, hr⟩ := h
  obtain ⟨r', ho', hr'⟩ := h'
  refine ⟨mn_chainT mna mnb mnc, _, pt_chain ho ho' pa pb pc hm, fun aS A0 H0 σ H s n xq Q S L hm => ?_⟩
  refine fa aS A0 H0 σ H s n xq _ S L (mna _ _ _ _ _ (fun d1 n1 q v1 H1 k1 st1 r1 => ?_) hm)
  refine fb aS A0 H0 σ H1 s n1 xq _ (S.step k1 st1) L (mnb _ _ _ _ _ (fun d2 n2 q2 v2 H2 k2 st2 r2 => ?_) q)
  obtain ⟨k, e, q2⟩ := q2
  refine hr aS H2 _ n2 d1 d2 _ v1 v2 _ (S.step (k1.trans k2) st2).cn (r1.kp k2 st1 AV.st) r2 e fun v H3 k3 st3 r3 => ?_
  rw [Rep] at r3
  refine ⟨k, r3, ?_⟩
  cases k with
  | false => rw [if_neg (by decide)] at q2 ⊢; exact ⟨false, rfl, q2 H3 ((k1.trans k2).trans k3) st3⟩
  | true =>
    rw [if_pos rfl] at q2 ⊢
    refine fc aS A0 H0 σ H3 s n2 xq _ (S.step ((k1.trans k2).trans k3) st3) L (mnc _ _ _ _ _ (fun d3 n3 q3 v3 H4 k4 st4 r4 => ?_) q2)
    obtain ⟨d, e', q3⟩ := q3
    refine hr' aS H4 _ n3 d2 d3 _ v2 v3 _ (S.step (((k1.trans k2).trans k3).trans k4) st4).cn ((r2.kp k3 st2 AV.st).kp k4 st3 AV.st) r4 e' fun v H' k st r => ?_
    rw [Rep] at r
    exact ⟨d, r, q3 H' ((((k1.trans k2).trans k3).trans k4).trans k) st⟩
/-- is None -/
def noneD : D → Bool
  | .non => true
  | _ => false
def rawD : D → Bool
  | .raw _ => true
  | _ => false
def dIsN (x y : D) : Option D := match y with | .non => if rawD x = true then none else some (.bl (noneD x)) | _ => none
def dNotN (x y : D) : Option D := match y with | .non => if rawD x = true then none else some (.bl (!noneD x)) | _ => none
theorem none_rep {K : PySem.W.Frag} {aS : Addr} {H : Hp} {A : AS} {d : D} {v : V} (h : rawD d = false) (r : RepB K aS H A d v) : decide (v = .non) = noneD d := by
  cases d with
  | non => rw [repB_non r]; rfl
  | bl b => rw [repB_bl r]; rfl
  | int b => rw [repB_int r]; rfl
  | str b => rw [repB_str r]; rfl
  | raw b => cases h
  | st => have r : Rep K aS H A .st v := r; rw [Rep] at r; rw [r]; rfl
  | tup b => obtain ⟨a, xs, e, _⟩ := repB_tup r; rw [e]; rfl
  | lst b => obtain ⟨a, xs, e, _⟩ := repB_lst r; rw [e]; rfl
  | dic b => obtain ⟨a, xs, e, _⟩ := repB_dic r; rw [e]; rfl
  | obj C b => obtain ⟨a, dx, xs, e, _⟩ := r; rw [e]; rfl
theorem od_isN : OpD X (compareOp .Is) dIsN := by
  refine ⟨_, op_isN, fun aS H A n d1 d2 d v1 v2 Q c r1 r2 e w => ?_⟩
  unfold dIsN at e
  split at e
  · split at e
    · cases e
    · next h =>
      cases e
      refine ⟨repB_non r2, ?_⟩
      rw [none_rep (by simpa using h) r1]
      exact w _ H KpS.refl c.st rep_bl
  · cases e
theorem od_notN : OpD X (compareOp .IsNot) dNotN := by
  refine ⟨_, op_notN, fun aS H A n d1 d2 d v1 v2 Q c r1 r2 e w => ?_⟩
  unfold dNotN at e
  split at e
  · split at e
    · cases e
    · next h =>
      cases e
      refine ⟨repB_non r2, ?_⟩
      rw [none_rep (by simpa using h) r1]
      exact w _ H KpS.refl c.st rep_bl
  · cases e
def eNeg (m : EM D) : EM D := fun xq s n Q => m xq s n fun d n' => ∃ i : Int, d = .int i ∧ Q (.int (-i)) n'
theorem ve_neg (h : VB X E O e m) : VE X E O (.UnaryOp .USub e pos) (eNeg m) := by
  obtain ⟨mn, t, p, f⟩ := h
  refine ⟨fun xq s n Q Q' hq w => mn _ _ _ _ _ (fun d n' ⟨i, e, q⟩ => ⟨i, e, hq _ _ q⟩) w, _, pe_un un_neg p, fun aS A0 H0 σ H s n xq Q S L hm => f aS A0 H0 σ H s n xq _ S L (mn _ _ _ _ _ (fun d n' q v H' kp st r => ?_) hm)⟩
  obtain ⟨i, e, q⟩ := q
  subst e
  exact ⟨i, repB_int r, q _ H' kp st rep_int⟩
end
/-! ### a dict that is walked is locked meanwhile -/
section
variable {K : PySem.W.Frag} {aS a b : Addr} {H H' H0 : Hp} {A : AS} {A0 : A0T} {O : List Nat} {σ σ' : L2.St} {s s' : Ev} {n n' : Nat} {ys : List (Key × V)} {o : Obj}
theorem sub_lock (hb : H b = some (.dK ys)) : Sub K H (upd H b (.frz o (.dK ys))) A A := by
  have up : ∀ c u, H c = some u → c ≠ b → upd H b (.frz o (.dK ys)) c = some u := fun c u q z => by rw [upd_ne z]; exact q
  refine ⟨fun c xs h q => ⟨h, up _ _ q fun z => ?_⟩, fun c xs q => q.elim (fun q => .inl (up _ _ q fun z => ?_)) .inr, fun c zs h q => ⟨h, ?_⟩, fun c C dx zs h q => ⟨h, up _ _ q fun z => ?_⟩⟩
  · rw [z, hb] at q; cases q
  · rw [z, hb] at q; cases q
  · rcases q with q | ⟨o', q⟩
    · by_cases z : c = b
      · subst z
        rw [hb] at q
        cases q
        exact .inr ⟨o, upd_same⟩
      · exact .inl (up _ _ q z)
    · exact .inr ⟨o', up _ _ q fun z => by rw [z, hb] at q; cases q⟩
  · rw [z, hb] at q; cases q
theorem sub_unlock (hb : H b = some (.frz o (.dK ys))) : Sub K H (upd H b (.dK ys)) A A := by
  have up : ∀ c u, H c = some u → c ≠ b → upd H b (.dK ys) c = some u := fun c u q z => by rw [upd_ne z]; exact q
  refine ⟨fun c xs h q => ⟨h, up _ _ q fun z => ?_⟩, fun c xs q => q.elim (fun q => .inl (up _ _ q fun z => ?_)) .inr, fun c zs h q => ⟨h, ?_⟩, fun c C dx zs h q => ⟨h, up _ _ q fun z => ?_⟩⟩
  · rw [z, hb] at q; cases q
  · rw [z, hb] at q; cases q
  · rcases q with q | ⟨o', q⟩
    · exact .inl (up _ _ q fun z => by rw [z, hb] at q; cases q)
    · by_cases z : c = b
      · subst z
        rw [hb] at q
        cases q
        exact .inl upd_same
      · exact .inr ⟨o', up _ _ q z⟩
  · rw [z, hb] at q; cases q
theorem StA.lock (st : StA K aS H n) (hb : H b = some (.dK ys)) : StA K aS (L2.upd H b (.frz o (.dK ys))) n := by
  obtain ⟨a0, cs, i, g, m, d, e, h1, ⟨ob, h2⟩, h3⟩ := st
  refine ⟨a0, cs, i, g, m, d, ?_, h1, ⟨ob, ?_⟩, h3⟩
  · rw [upd_ne (show aS ≠ b from fun z => by rw [z, hb] at e; cases e)]; exact e
  · rw [upd_ne (show a0 ≠ b from fun z => by rw [z, hb] at h2; cases h2)]; exact h2
theorem StA.unlock (st : StA K aS H n) (hb : H b = some (.frz o (.dK ys))) : StA K aS (L2.upd H b (.dK ys)) n := by
  obtain ⟨a0, cs, i, g, m, d, e, h1, ⟨ob, h2⟩, h3⟩ := st
  refine ⟨a0, cs, i, g, m, d, ?_, h1, ⟨ob, ?_⟩, h3⟩
  · rw [upd_ne (show aS ≠ b from fun z => by rw [z, hb] at e; cases e)]; exact e
  · rw [upd_ne (show a0 ≠ b from fun z => by rw [z, hb] at h2; cases h2)]; exact h2
theorem Own.mv {d : D} (S : Sub K H H' A A) (h1 : ∀ u, H a = some u → (∀ o v, u ≠ .frz o v) → H' a = some u) (r : Own K aS H A a d) : Own K aS H' A a d := by
  cases d with
  | lst ds => obtain ⟨xs, e, q⟩ := r; exact ⟨xs, h1 _ e (fun _ _ z => nomatch z), RepL.mono S _ _ q⟩
  | dic ds => obtain ⟨xs, e, q⟩ := r; exact ⟨xs, h1 _ e (fun _ _ z => nomatch z), RepK.mono S _ _ q⟩
  | obj C ds => obtain ⟨dx, xs, e, q⟩ := r; exact ⟨dx, xs, h1 _ e (fun _ _ z => nomatch z), RepF.mono S _ _ q⟩
  | _ => exact r
theorem SR.lock (S : SR K aS O A0 H0 σ H s n) (hn : ¬ AV aS A0 O σ b) (hb : H b = some (.dK ys)) : SR K aS O A0 (bare O σ (upd H b (.frz o (.dK ys)))) σ (upd H b (.frz o (.dK ys))) s n where
  len := S.len
  sh := fun i d h1 h2 => let ⟨v, e, r⟩ := S.sh i d h1 h2; ⟨v, e, Rep.mono (sub_lock hb) _ _ r⟩
  ow := fun i h => by
    obtain ⟨d, a, e1, e2, e3, e4, e5, e6⟩ := S.ow i h
    refine ⟨d, a, e1, e2, bare_own ⟨i, h, e2⟩, e4, e5, e6.mv (sub_lock hb) fun u e _ => ?_⟩
    rw [upd_ne (show a ≠ b from fun z => hn (.inr (.inr ⟨i, h, z ▸ e2⟩)))]
    exact e
  ds := S.ds
  fr := fun c u e _ => bare_some e
  st := S.st.lock hb
  av := fun c h => by
    obtain ⟨u, e⟩ := S.av c h
    by_cases z : c = b
    · exact ⟨_, by rw [z]; exact upd_same⟩
    · exact ⟨u, by rw [upd_ne z]; exact e⟩
  pn := S.pn
theorem SR.leL (S : SR K aS O A0 H0 σ H s n) (hb : H b = some (.dK ys)) : ∀ c u, H0 c = some u → c ≠ aS → c ≠ b → bare O σ (upd H b (.frz o (.dK ys))) c = some u := fun c u e z1 z2 => by
  have h := S.le c u e z1
  have hn : ¬ ∃ i, i ∈ O ∧ σ[i]? = some (some (.ref c)) := fun y => by rw [bare_own y] at h; cases h
  rw [bare_not hn] at h
  rw [bare_not hn, upd_ne z2]
  exact h
theorem SR.unkp (S : SR K aS O A0 H0 σ H s n) (hb : H b = some (.dK ys)) (k : KpS aS (bare O σ (upd H b (.frz o (.dK ys)))) H') : KpS aS H0 (upd H' b (.dK ys)) := fun c u e z => by
  by_cases y : c = b
  · have h := S.fr c u e z
    rw [y, hb] at h
    cases h
    rw [y]
    exact upd_same
  · rw [upd_ne y]
    exact k c u (S.leL hb c u e z y) z
theorem SR.atL (S : SR K aS O A0 H0 σ H s n) (hn : ¬ AV aS A0 O σ b) (hb : H b = some (.dK ys)) (k : KpS aS (bare O σ (upd H b (.frz o (.dK ys)))) H') : H' b = some (.frz o (.dK ys)) :=
  k b _ ((bare_not fun z => hn (.inr (.inr z))).trans upd_same) fun z => hn (.inr (.inl z))
theorem SR.unlock (S : SR K aS O A0 H0 σ H s n) (hn : ¬ AV aS A0 O σ b) (hb : H b = some (.dK ys)) {O' : List Nat} (S' : SR K aS O' A0 (bare O σ (upd H b (.frz o (.dK ys)))) σ' H' s' n') : SR K aS O' A0 H0 σ' (upd H' b (.dK ys)) s' n' where
  len := S'.len
  sh := fun i d h1 h2 => let ⟨v, e, r⟩ := S'.sh i d h1 h2; ⟨v, e, Rep.mono (sub_unlock (S.atL hn hb S'.fr)) _ _ r⟩
  ow := fun i h => by
    obtain ⟨d, a, e1, e2, e3, e4, e5, e6⟩ := S'.ow i h
    refine ⟨d, a, e1, e2, Option.eq_none_iff_forall_ne_some.mpr fun u z => ?_, e4, e5, e6.mv (sub_unlock (S.atL hn hb S'.fr)) fun u e nf => ?_⟩
    · by_cases y : a = b
      · rw [y, bare_not fun z => hn (.inr (.inr z)), upd_same] at e3
        cases e3
      · rw [S.leL hb a u z e5 y] at e3
        cases e3
    · have ne : a ≠ b := fun z => by
        rw [z, S.atL hn hb S'.fr] at e
        cases e
        exact nf _ _ rfl
      rw [upd_ne ne]
      exact e
  ds := S'.ds
  fr := S.unkp hb S'.fr
  st := S'.st.unlock (S.atL hn hb S'.fr)
  av := fun c h => by
    obtain ⟨u, e⟩ := S'.av c h
    by_cases z : c = b
    · exact ⟨_, by rw [z]; exact upd_same⟩
    · exact ⟨u, by rw [upd_ne z]; exact e⟩
  pn := S'.pn
end
/-- a path: a name, a field of a path -/
def VP (X : Cx) (O : List Nat) (e : Expr) (p : Ev → Option D) : Prop := ∃ t, PE X e t ∧ ∃ pv : L2.St → Hp → Option V, (∀ σ H v (Q : VK), pv σ H = some v → Q v H → t σ H Q) ∧
  (∀ (aS : Addr) (A0 : A0T) (H0 : Hp) (σ : L2.St) (H : Hp) (s : Ev) (n : Nat) (d : D), SR X.K aS O A0 H0 σ H s n → p s = some d → ∃ v, pv σ H = some v ∧ Rep X.K aS H (AV aS A0 O σ) d v) ∧
  ∀ σ H b o ys, H b = some (.dK ys) → pv σ (upd H b (.frz o (.dK ys))) = pv σ H
section
variable {X : Cx} {E : XK} {O OL vs : List Nat} {e tg : Expr} {p : Ev → Option D} {pos : Pos} {i : Nat} {g : DG} {mb : SM} {me mk : EM D} {mt : EM Bool}
theorem vp_var {x : Str} (hi : i ∉ O) (hN : X.N[i]? = some x) (hv : Vis X.env.scope x) (hd : (x == ("__debug__" : Str)) = false := by decide) (hcd : (x == ("__classdict__" : Str)) = false := by decide) : VP X O (.Name x pos) (fun s => (s[i]?).join) := by
  refine ⟨_, pe_var hN hv hd hcd, fun σ _ => (σ[i]?).join, fun σ H v Q e q => ?_, fun aS A0 H0 σ H s n d S e => ?_, fun _ _ _ _ _ _ => rfl⟩
  · refine ⟨v, ?_, q⟩
    have e : (σ[i]?).join = some v := e
    cases h : σ[i]? with
    | none => rw [h] at e; cases e
    | some o => rw [h] at e; exact congrArg some e
  · have e : (s[i]?).join = some d := e
    have es : s[i]? = some (some d) := by
      cases h : s[i]? with
      | none => rw [h] at e; cases e
      | some o => rw [h] at e; exact congrArg some e
    obtain ⟨v, ev, r⟩ := S.sh i d es hi
    exact ⟨v, by show (σ[i]?).join = some v; rw [ev]; rfl, r⟩
def fldD (C : Addr) (g : Str) : D → Option D
  | .obj C' fs => if C' = C then fs.lookup g else none
  | _ => none
def fldV (C : Addr) (g : Str) (H : Hp) : V → Option V
  | .ref a => (match H a with | some (.ins C' _ fs) => if C' = C then fs.lookup g else none | _ => none)
  | _ => none
theorem vp_fld {g : Str} {C : Addr} (cl : Cls X.K C) (na : NoAttr X.K C g) (h : VP X O e p) (hb : attributeBase e g X.env (eval e X.env) = eval e X.env := by rfl) : VP X O (.Attribute e g pos) (fun s => (p s).bind (fldD C g)) := by
  obtain ⟨t, pe, pv, h1, h2, h3⟩ := h
  refine ⟨_, pe_fld pe hb, fun σ H => (pv σ H).bind (fldV C g H), fun σ H v Q e q => ?_, fun aS A0 H0 σ H s n d S e => ?_, fun σ H b o ys hb => ?_⟩
  · obtain ⟨u, hp, e2⟩ := Option.bind_eq_some_iff.mp e
    unfold fldV at e2
    split at e2
    · split at e2
      · split at e2
        · next a _ C' dx fs hq hc =>
          subst hc
          exact h1 σ H _ _ hp ⟨a, _, dx, fs, v, rfl, hq, cl, na, e2, q⟩
        · cases e2
      · cases e2
    · cases e2
  · obtain ⟨d0, hp, e2⟩ := Option.bind_eq_some_iff.mp e
    unfold fldD at e2
    split at e2
    · split at e2
      · next C' fs hc =>
        subst hc
        obtain ⟨v, ev, r⟩ := h2 aS A0 H0 σ H s n _ S hp
        rw [Rep] at r
        obtain ⟨a, dx, ys, eq, na', hq, rf⟩ := r
        rcases repF_look g rf with z | ⟨d', u, z1, z2, z3⟩
        · rw [z.1] at e2; cases e2
        · rw [e2] at z1
          cases z1
          refine ⟨u, Option.bind_eq_some_iff.mpr ⟨v, ev, ?_⟩, z3⟩
          rw [eq]
          unfold fldV
          simp only [hq, if_true]
          exact z2
      · cases e2
    · cases e2
  · show (pv σ _).bind _ = (pv σ H).bind _
    rw [h3 σ H b o ys hb]
    congr 1
    funext u
    unfold fldV
    cases u with
    | ref a =>
      by_cases z : a = b
      · simp only [z, upd_same, hb]
      · simp only [upd_ne z]
    | _ => rfl
end
end DL
namespace DL
open PySem PySem.Spec PyProof.Rows L2
/-! ### dicts by data -/
def putD (kvs : List (Key × D)) (k : Key) (v : D) : List (Key × D) :=
  if (lookK kvs k).isSome = true then kvs.map (fun p => (p.1, if p.1 = k then v else p.2)) else kvs.concat (k, v)
def mergeD (kvs more : List (Key × D)) : List (Key × D) := more.foldl (fun acc kv => putD acc kv.1 kv.2) kvs
section
variable {K : PySem.W.Frag} {aS a b : Addr} {H H' H0 : Hp} {A : AS}
theorem RepK.nil : RepK K aS H A [] [] := by rw [RepK]
theorem RepK.cons {k : Key} {d : D} {v : V} {ds : List (Key × D)} {vs : List (Key × V)} (r : Rep K aS H A d v) (q : RepK K aS H A ds vs) : RepK K aS H A ((k, d) :: ds) ((k, v) :: vs) := by
  rw [RepK]
  exact ⟨v, vs, rfl, r, q⟩
theorem RepK.new (k : Key) {ds : List (Key × D)} {vs : List (Key × V)} (h : RepK K aS H A ds vs) : (vs.any fun kv => decide (kv.1 = k)) = (lookK ds k).isSome := by
  rw [valV_any]
  rcases h.val k with ⟨e1, e2⟩ | ⟨_, _, e1, e2, _⟩ <;> rw [e1, e2] <;> rfl
theorem RepK.swap {k : Key} {d : D} {v : V} (r : Rep K aS H A d v) : ∀ {ds : List (Key × D)} {vs : List (Key × V)}, RepK K aS H A ds vs → RepK K aS H A (ds.map fun p => (p.1, if p.1 = k then d else p.2)) (vs.map fun kv => if kv.1 = k then (kv.1, v) else kv)
  | [], vs, h => by rw [RepK] at h; rw [h]; exact RepK.nil
  | (k', d') :: ds, vs, h => by
    rw [RepK] at h
    obtain ⟨v', vr, e, r', q⟩ := h
    rw [e, List.map_cons, List.map_cons]
    by_cases z : k' = k
    · rw [if_pos z, if_pos z]; exact RepK.cons r (RepK.swap r q)
    · rw [if_neg z, if_neg z]; exact RepK.cons r' (RepK.swap r q)
theorem RepK.app {es : List (Key × D)} {ws : List (Key × V)} (r : RepK K aS H A es ws) : ∀ {ds : List (Key × D)} {vs : List (Key × V)}, RepK K aS H A ds vs → RepK K aS H A (ds ++ es) (vs ++ ws)
  | [], vs, h => by rw [RepK] at h; rw [h]; exact r
  | (k', d') :: ds, vs, h => by
    rw [RepK] at h
    obtain ⟨v', vr, e, r', q⟩ := h
    rw [e]
    exact RepK.cons r' (RepK.app r q)
theorem RepK.put {ds : List (Key × D)} {vs : List (Key × V)} (k : Key) {d : D} {v : V} (h : RepK K aS H A ds vs) (r : Rep K aS H A d v) : RepK K aS H A (putD ds k d) (putK vs k v) := by
  unfold putD putK
  rw [h.new k]
  split
  · exact RepK.swap r h
  · rw [List.concat_eq_append]
    exact RepK.app (RepK.cons r RepK.nil) h
theorem RepK.merge : ∀ {es : List (Key × D)} {ws : List (Key × V)} {ds : List (Key × D)} {vs : List (Key × V)}, RepK K aS H A es ws → RepK K aS H A ds vs → RepK K aS H A (mergeD ds es) (mergeK vs ws)
  | [], ws, ds, vs, h, q => by rw [RepK] at h; rw [h]; exact q
  | (k, d) :: es, ws, ds, vs, h, q => by
    rw [RepK] at h
    obtain ⟨v', vr, e, r', h⟩ := h
    subst e
    exact RepK.merge (es := es) (ws := vr) h (q.put k r')
theorem putD_len (kvs : List (Key × D)) (k : Key) (d : D) : (putD kvs k d).length ≤ kvs.length + 1 := by
  unfold putD
  split
  · rw [List.length_map]; omega
  · rw [List.length_concat]; exact Nat.le_refl _
end
/-! dict(x) -/
def pairK : D → Option (Key × D)
  | .tup [k, v] => (keyD k).map fun k => (k, v)
  | _ => none
def pairsK : List D → Option (List (Key × D))
  | [] => some []
  | d :: ds => match pairK d, pairsK ds with | some p, some r => some (p :: r) | _, _ => none
def dDict : List D → Option D
  | [.dic kvs] => some (.dic kvs)
  | [.lst ds] => (pairsK ds).map fun kvs => .dic (mergeD [] kvs)
  | _ => none
section
variable {X : Cx}
theorem call_dictC : CallR X (.type "dict") (fun xs H Q => ∃ (a : Addr) (kvs : List (Key × V)), xs = [.ref a] ∧ Rd H a (.dK kvs) ∧ ∀ p, H p = none → Q (.ref p) (upd H p (.dK kvs))) := by
  intro pins s σ H xs us Q I rv q
  obtain ⟨a, kvs, ex, h, q⟩ := q
  subst ex
  obtain ⟨u, eu, rx⟩ := vals1 rv
  subst eu
  cases rx
  exact d_copyOf I h fun p s' hp I' => ⟨.ref p, _, I', rfl, q p hp⟩
theorem pairs_rep {K : PySem.W.Frag} {aS : Addr} {H : Hp} {A : AS} : ∀ {ds : List D} {vs : List V} {kvs : List (Key × D)}, A aS → pairsK ds = some kvs → RepL K aS H A ds vs → ∃ (ps : List Addr) (kws : List (Key × V)), vs = ps.map V.ref ∧ Paired (fun p (kv : Key × V) => SqT K H p [kV kv.1, kv.2]) ps kws ∧ RepK K aS H A kvs kws
  | [], vs, kvs, hA, e, h => by
    rw [RepL] at h
    cases e
    exact ⟨[], [], h, .nil, RepK.nil⟩
  | d :: ds, vs, kvs, hA, e, h => by
    rw [RepL] at h
    obtain ⟨v, vr, ev, r, q⟩ := h
    unfold pairsK at e
    split at e
    · next p rr hp hr =>
      cases e
      obtain ⟨ps, kws, e1, e2, e3⟩ := pairs_rep hA hr q
      unfold pairK at hp
      split at hp
      · next k v' =>
        cases hk : keyD k with
        | none => rw [hk] at hp; cases hp
        | some kk =>
          rw [hk] at hp
          cases hp
          rw [Rep] at r
          obtain ⟨a, xs, ea, ht, rl⟩ := r
          rw [RepL] at rl
          obtain ⟨v1, vr1, ex, r1, rl⟩ := rl
          rw [RepL] at rl
          obtain ⟨v2, vr2, ex2, r2, rl⟩ := rl
          rw [RepL] at rl
          subst rl ex2 ex ea
          have ek := key_rep hk (Rep.b hA r1)
          subst ek
          subst e1
          refine ⟨a :: ps, (kk, v2) :: kws, ev, .cons ht.sq e2, RepK.cons r2 e3⟩
      · cases hp
    · cases e
theorem own_newK' {K : PySem.W.Frag} {aS p : Addr} {H : Hp} {A : AS} {ds : List (Key × D)} {xs : List (Key × V)} (hp : H p = none) (r : RepK K aS H A ds xs) : Own K aS (upd H p (.dK xs)) (fun b => A b ∨ b = p) p (.dic ds) := ⟨xs, upd_same, RepK.mono (sub_new hp) _ _ r⟩
theorem cf_dict (hc : X.calm = true) : CallF X (.type "dict") dDict := by
  refine ⟨_, CallR.or call_dictC (call_dictP hc), fun aS H A n ds d vs Q c rl e w => ?_⟩
  unfold dDict at e
  split at e
  · cases e
    obtain ⟨v, e1, r⟩ := rl_one rl
    obtain ⟨p, xs, e2, _, h1, q⟩ := repB_dic r
    subst e1 e2
    exact .inl ⟨p, xs, rfl, h1, fun l hl => w _ _ hl (KpS.upd hl) (c.st.upd hl) (own_newK' hl q)⟩
  · next ds' =>
    cases hp : pairsK ds' with
    | none => rw [hp] at e; cases e
    | some kvs =>
      rw [hp] at e
      cases e
      obtain ⟨v, e1, r⟩ := rl_one rl
      obtain ⟨p, xs, e2, _, h1, q⟩ := repB_lst r
      subst e1 e2
      obtain ⟨ps, kws, z1, z2, z3⟩ := pairs_rep c.a hp q
      subst z1
      exact .inr ⟨p, ps, kws, rfl, SqL.of h1, z2, fun l hl => w _ _ hl (KpS.upd hl) (c.st.upd hl) (own_newK' hl (z3.merge RepK.nil))⟩
  · cases e
/-! {}, d[k] = v, d.get(k, x) -/
variable {E : XK} {O OL vs : List Nat} {e tg o : Expr} {p : Ev → Option D} {pos : Pos} {i : Nat} {g : DG} {mb : SM} {m me mk mo mx : EM D} {mt : EM Bool}
theorem vf_dic0 : VF X E O (.Dict [] [] pos) (eC (.dic [])) := ⟨mn_c, _, pe_dnewK, fun aS A0 H0 σ H s n xq Q S L hm q hq => hm q _ hq (KpS.upd hq) (S.st.upd hq) (own_newK' hq RepK.nil)⟩
def sDput (i : Nat) (mk m : EM D) : SM := fun xq de s n => m xq s n fun d n1 => mk xq s n1 fun k n2 => ∃ kk kvs, keyD k = some kk ∧ s[i]? = some (some (.dic kvs)) ∧ kvs.length < LIM ∧ de.nx (s.set i (some (.dic (putD kvs kk d)))) n2
theorem vs_dput {x : Str} {ix : Expr} {px ps : Pos} (hu : X.A.units + 1 < cLine) (hi : i ∈ O) (hN : X.N[i]? = some x) (hv : Vis X.env.scope x) (hk : VE X E O ix mk) (h : VE X E O e m) (hs : swapsWith e (some (.Subscript (.Name x px) ix ps)) pos.line X.env = pure false := by rfl)
    (hd : (x == ("__debug__" : Str)) = false := by decide) (hcd : (x == ("__classdict__" : Str)) = false := by decide) : VS X E O O OL (.Assign [.Subscript (.Name x px) ix ps] e pos) (sDput i mk m) := by
  obtain ⟨mn, t, pe, f⟩ := h
  obtain ⟨mnk, tk, pk, fk⟩ := hk
  refine ⟨_, ps_dput hu (pe_var hN hv hd hcd) pk pe hs, fun aS A0 H0 σ H s n xq de De S L k h => ?_⟩
  refine f aS A0 H0 σ H s n xq _ S L (mn _ _ _ _ _ (fun d n1 q v H1 k1 st1 r1 => ?_) h)
  have S1 := S.step k1 st1
  obtain ⟨d0, a, e1, e2, _⟩ := S.ow i hi
  refine ⟨.ref a, e2, fk aS A0 H0 σ H1 s n1 xq _ S1 L (mnk _ _ _ _ _ (fun dk n2 q2 u H2 k2 st2 r2 => ?_) q)⟩
  obtain ⟨kk, kvs, z1, z2, z3, q2⟩ := q2
  have S2 := S1.step k2 st2
  obtain ⟨a', ys, y1, y2, y3, y4⟩ := own_dic S2 hi z2
  rw [e2] at y1
  cases y1
  have ek := key_rep z1 (r2.b AV.st)
  subst ek
  refine ⟨a, _, rfl, DPut.k y3 (by rw [y4.length]; exact lim_lt z3), k.nx _ _ _ _ (S2.mutD hi e2 y3 (y4.put kk (r1.kp k2 st1 AV.st))) q2⟩
def eDget (mo mk mx : EM D) : EM D := fun xq s n Q => mo xq s n fun d n1 => ∃ kvs, d = .dic kvs ∧ mk xq s n1 fun k n2 => mx xq s n2 fun x n3 => ∃ kk, keyD k = some kk ∧ Q ((lookK kvs kk).getD x) n3
theorem ve_dget {ek ex : Expr} {ap : Pos} (hu : X.A.units + 1 < cLine) (ho : VB X E O o mo) (hk : VE X E O ek mk) (hx : VE X E O ex mx) (hM : M2 X o "get" ap ek ex pos := by exact ⟨rfl, rfl, rfl, rfl⟩) : VE X E O (.Call (.Attribute o "get" ap) [ek, ex] [] pos) (eDget mo mk mx) := by
  obtain ⟨mno, to, po, fo⟩ := ho
  obtain ⟨mnk, tk, pk, fk⟩ := hk
  obtain ⟨mnx, tx, px, fx⟩ := hx
  refine ⟨fun xq s n Q Q' hq w => mno _ _ _ _ _ (fun d n1 ⟨kvs, e, w⟩ => ⟨kvs, e, mnk _ _ _ _ _ (fun k n2 w => mnx _ _ _ _ _ (fun x n3 ⟨kk, e, w⟩ => ⟨kk, e, hq _ _ w⟩) w) w⟩) w, _, pe_dget2 hu po pk px hM, fun aS A0 H0 σ H s n xq Q S L hm => ?_⟩
  refine fo aS A0 H0 σ H s n xq _ S L (mno _ _ _ _ _ (fun d n1 q v H1 k1 st1 r1 => ?_) hm)
  obtain ⟨kvs, ed, q⟩ := q
  subst ed
  obtain ⟨a, ys, ev, na, hr, rk⟩ := repB_dic r1
  refine ⟨a, ev, .inl ⟨ys, hr⟩, fk aS A0 H0 σ H1 s n1 xq _ (S.step k1 st1) L (mnk _ _ _ _ _ (fun d2 n2 q2 v2 H2 k2 st2 r2 => ?_) q)⟩
  refine fx aS A0 H0 σ H2 s n2 xq _ (S.step (k1.trans k2) st2) L (mnx _ _ _ _ _ (fun d3 n3 q3 v3 H3 k3 st3 r3 => ?_) q2)
  obtain ⟨kk, z1, q3⟩ := q3
  have ek := key_rep z1 (r2.b AV.st)
  subst ek
  have k23 := k2.trans k3
  have rk' := rk.kp k23 st1 AV.st
  have hr' := Rd.kp k23 na hr
  refine ⟨valV ys kk, .inl ⟨ys, kk, hr', rfl, rfl⟩, q3 _ H3 (k1.trans k23) st3 ?_⟩
  rcases rk'.val kk with ⟨y1, y2⟩ | ⟨d', v', y1, y2, y3⟩
  · rw [y1, y2]; exact r3
  · rw [y1, y2]; exact y3
end
end DL
namespace DL
open PySem PySem.Spec PyProof.Rows L2
/-! ### loops by their ends -/
def GSem (X : Cx) (O vs : List Nat) (g : DG) (gt : TG) : Prop := ∀ (aS : Addr) (A0 : A0T) (H0 : Hp) (σ : L2.St) (H : Hp) (s : Ev) (n : Nat) (d : D) (v : V) (Q : Ev → Prop) (QH : L2.St → Hp → Prop), SR X.K aS O A0 H0 σ H s n → Rep X.K aS H (AV aS A0 O σ) d v → g d s Q →
    (∀ σ' s', SR X.K aS O A0 H0 σ' H s' n → σ'.length = σ.length → (∀ j, j ∉ vs → σ'[j]? = σ[j]?) → AV aS A0 O σ' = AV aS A0 O σ → Q s' → QH σ' H) → gt v σ H QH
def TSem (X : Cx) (E : XK) (O : List Nat) (mt : EM Bool) (t : TT) : Prop := ∀ (aS : Addr) (A0 : A0T) (H0 : Hp) (σ : L2.St) (H : Hp) (s : Ev) (n : Nat) (xq : XQ) (Q : Bool → Hp → Prop), SR X.K aS O A0 H0 σ H s n → LX X.K E aS A0 H0 xq →
    mt xq s n (fun b n' => ∀ H', KpS aS H H' → StA X.K aS H' n' → Q b H') → t σ H Q
def ESem (X : Cx) (E : XK) (O : List Nat) (m : EM D) (t : TE) : Prop := ∀ (aS : Addr) (A0 : A0T) (H0 : Hp) (σ : L2.St) (H : Hp) (s : Ev) (n : Nat) (xq : XQ) (Q : VK), SR X.K aS O A0 H0 σ H s n → LX X.K E aS A0 H0 xq →
    m xq s n (fun d n' => ∀ v H', KpS aS H H' → StA X.K aS H' n' → Rep X.K aS H' (AV aS A0 O σ) d v → Q v H') → t σ H Q
def BSem (X : Cx) (E : XK) (O : List Nat) (mb : SM) (t : TS) : Prop := ∀ (aS : Addr) (A0 : A0T) (H0 : Hp) (σ : L2.St) (H : Hp) (s : Ev) (n : Nat) (xq : XQ) (de : DE) (De : Ends), SR X.K aS O A0 H0 σ H s n → LX X.K E aS A0 H0 xq → LK X.K aS O O A0 H0 de De → mb xq de s n → t De σ H
/-- a walk J that begins at H1 -/
abbrev iAt (J : It) (H1 : Hp) : TI := fun _ _ R => R J H1
def ForW (J : It) (g : TG) (tb : TS) (D : Ends) (σ : L2.St) (H1 : Hp) : Prop := tFor (iAt J H1) g tb D σ H1
def LcW (J : It) (g : TG) (tt : TT) (te : TE) (vs : List Nat) (σ : L2.St) (H1 : Hp) (Q : VK) : Prop := tLc (iAt J H1) g tt te vs σ H1 Q
def DcW (J : It) (g : TG) (tt : TT) (tk tv : TE) (vs : List Nat) (σ : L2.St) (H1 : Hp) (Q : VK) : Prop := tDc (iAt J H1) g tt tk tv vs σ H1 Q
/-- one turn of a dict comprehension into the dict at D, N what stands behind it -/
def DTurn (g : TG) (tt : TT) (tk tv : TE) (vs : List Nat) (σ : L2.St) (D : Addr) (N : Hp → Prop) (x : V) (H : Hp) : Prop := g x (wipe σ vs) H fun σ' H' => wipe σ' vs = wipe σ vs ∧ tt σ' H' fun c H'' =>
  if c = true then tk σ' H'' fun y Hk => tv σ' Hk fun z Hv => ∃ kvs k, y = kV k ∧ Hv D = some (.dK kvs) ∧ kvs.length < sizeLine ∧ N (upd Hv D (.dK (putK kvs k z))) else N H''
theorem dc_walk {J : It} {n : Nat} {G : Hp → Prop} {Y : Nat → Hp → V → Hp → Prop} (w : Walk J n G Y) {g : TG} {tt : TT} {tk tv : TE} {vs : List Nat} {σ : L2.St} {H1 : Hp} {Q : VK}
    (h : ∀ D, H1 D = none → ∃ Pv : Nat → Hp → Prop, Pv 0 (upd H1 D (.dK [])) ∧ (∀ i H, i ≤ n → Pv i H → G H) ∧ (∀ i x H H', i < n → Pv i H → Y i H x H' → DTurn g tt tk tv vs σ D (Pv (i + 1)) x H') ∧ ∀ H, Pv n H → Q (.ref D) H) : DcW J g tt tk tv vs σ H1 Q := by
  intro D hD
  obtain ⟨Pv, h0, hG, hs, hd⟩ := h D hD
  refine ⟨fun i m H => i ≤ n ∧ m = n - i ∧ Pv i H, ⟨n, Nat.zero_le _, rfl, h0⟩, fun i m H z => ?_⟩
  obtain ⟨hi, hm, p⟩ := z
  rcases Nat.lt_or_ge i n with hlt | hge
  · exact .inr ⟨w.goes i H hlt (hG i H hi p), Pv (i + 1), fun H' q => ⟨n - (i + 1), by omega, by omega, rfl, q⟩, fun x H' y => hs i x H H' hlt p (w.yields i H x H' hlt (hG i H hi p) y)⟩
  · obtain rfl : i = n := Nat.le_antisymm hi hge
    exact .inl ⟨w.stops H (hG _ H hi p), hd H p⟩
section
variable {X : Cx} {E : XK} {O OB OL vs hid : List Nat} {tg e iter : Expr} {ifs : List Expr} {m me mk : EM D} {mi : EM (List D)} {mt : EM Bool} {mb : SM} {g : DG} {scope : Scope} {pos : Pos}
theorem for_fin {gt : TG} {tb : TS} (fg : GSem X O vs g gt) (fb : BSem X E O mb tb) {aS : Addr} {A0 : A0T} {H0 H1 : Hp} {σ : L2.St} {s : Ev} {n1 : Nat} {xq : XQ} {de : DE} {De : Ends} {ds : List D} {J : It}
    (S1 : SR X.K aS O A0 H0 σ H1 s n1) (L : LX X.K E aS A0 H0 xq) (k : LK X.K aS O OL A0 H0 de De) (it : ItOk X.K aS A0 ds J (bare O σ H1)) (q : sForL g mb xq de ds s n1) : ForW J gt tb De σ H1 := by
  have le := S1.le
  have hF : ∀ {σ' H' s' n'}, SR X.K aS O A0 (bare O σ H1) σ' H' s' n' → Far aS A0 (bare O σ H1) (AV aS A0 O σ') := fun {σ' H' s' n'} S' => ⟨AV.st, fun b z => by
    rcases z with z | z | ⟨j, hj, e⟩
    · exact .inl z
    · exact .inr (.inl z)
    · obtain ⟨d, b', e1, e2, e3, _⟩ := S'.ow j hj
      rw [e] at e2
      cases e2
      exact .inr (.inr e3)⟩
  obtain ⟨G, Y, w, hG, hY⟩ := it
  refine for_it w (fun i σ' H' => ∃ s' n', SR X.K aS O A0 (bare O σ H1) σ' H' s' n' ∧ sForL g mb xq de (ds.drop i) s' n') ⟨s, n1, S1.base, q⟩ (fun i σ' H' _ z => ?_) (fun i x σ' H' H2 hi z y => ?_) (fun σ' H' z => ?_)
  · obtain ⟨s', n', S', _⟩ := z
    exact hG H' S'.fr
  · obtain ⟨s', n', S', q'⟩ := z
    obtain ⟨k2, d, ed, rd⟩ := hY i H' x H2 n' _ hi S'.fr S'.st (hF S') y
    rw [drop_get ed] at q'
    have S2 := S'.step (KpS.all k2) (S'.st.kp k2)
    refine fg aS A0 _ σ' H2 s' n' d x _ _ S2 rd q' fun σ3 s3 S3 _ _ a3 q3 => ?_
    exact fb aS A0 _ σ3 H2 s3 n' xq { de with nx := fun s2 n2 => sForL g mb xq de (ds.drop (i + 1)) s2 n2, ct := fun s2 n2 => sForL g mb xq de (ds.drop (i + 1)) s2 n2, bk := de.nx } _ S3 (L.base le) ⟨fun σ4 H4 s4 n4 S4 q4 => ⟨s4, n4, S4, q4⟩, (k.base le).rt, fun σ4 H4 s4 n4 S4 q4 => k.nx σ4 H4 s4 n4 (S4.back le) q4, fun σ4 H4 s4 n4 S4 q4 => ⟨s4, n4, S4, q4⟩⟩ q3
  · obtain ⟨s', n', S', q'⟩ := z
    rw [List.drop_length] at q'
    exact k.nx σ' H' s' n' (S'.back le) q'
theorem lc_fin {own : List (Str × Nat)} {ws : List Nat} {gt : TG} {tt : TT} {te : TE} (mnt : Mn mt) (mne : Mn me) (fg : GSem X OB ws g gt) (ft : TSem X E OB mt tt) (fe : ESem X E OB me te) (hown : ∀ j ∈ own.map (·.2), j ∉ OB) (hws : ∀ j ∈ ws, j ∈ own.map (·.2))
    {aS : Addr} {A0 A1 : A0T} {H0 H H1 : Hp} {σ : L2.St} {s : Ev} {n1 : Nat} {ds : List D} {J : It} {Q : VK} (kp : KpS aS H H1) (st : StA X.K aS H1 n1) (eA : AV aS A1 OB σ = AV aS A0 O σ) (S1 : SR X.K aS OB A1 H0 σ H1 (hideL s hid) n1) (it : ItOk X.K aS A1 ds J (bare OB σ H1)) (hlim : ds.length ≤ LIM)
    (q : sLcL g mt me (fun _ _ => False) (hideL s (own.map (·.2) ++ hid)) ds n1 [] fun xs n2 => ∀ a H', H a = none → KpS aS H H' → StA X.K aS H' n2 → Own X.K aS H' (fun b => AV aS A0 O σ b ∨ b = a) a (.lst xs) → Q (.ref a) H') : LcW J gt tt te (own.map (·.2)) σ H1 Q := by
  have LF : ∀ A1, LX X.K E aS A1 H0 (fun _ _ => False) := fun _ _ _ _ _ _ _ _ _ z => z.elim
  intro Dn hD
  obtain ⟨G, Y, w, hG, hY⟩ := it
  have hDs : Dn ≠ aS := fun z => by
    obtain ⟨xs, e⟩ := st.lst
    rw [z, e] at hD
    cases hD
  have hD0 : H0 Dn = none := Option.eq_none_iff_forall_ne_some.mpr fun u z => by
    rw [S1.fr _ _ z hDs] at hD
    cases hD
  have hDH : H Dn = none := Option.eq_none_iff_forall_ne_some.mpr fun u z => by
    rw [kp _ _ z hDs] at hD
    cases hD
  have S2 : SR X.K aS OB ⟨fun b => A1 b ∨ b = Dn, A1.z⟩ H0 (L2.wipe σ (own.map (·.2))) (upd H1 Dn (.lst [])) (hideL s (own.map (·.2) ++ hid)) n1 := by
    rw [hideL_append]
    exact (SR.wipe hown S1).laidA hD
  have hFar : ∀ {σ'}, AV aS (fun b => A1 b ∨ b = Dn) OB σ' = AV aS (fun b => A1 b ∨ b = Dn) OB σ → Far aS A1 (bare OB σ H1) (AV aS (fun b => A1 b ∨ b = Dn) OB σ') := fun {σ'} e => by
    rw [e]
    refine ⟨AV.st, fun b z => ?_⟩
    rcases z with (z | z) | z | z
    · exact .inl z
    · refine .inr (.inr ?_)
      by_cases y : ∃ i, i ∈ OB ∧ σ[i]? = some (some (.ref b))
      · exact bare_own y
      · rw [bare_not y, z]; exact hD
    · exact .inr (.inl z)
    · exact .inr (.inr (bare_own z))
  have eW : AV aS (fun b => A1 b ∨ b = Dn) OB (L2.wipe σ (own.map (·.2))) = AV aS (fun b => A1 b ∨ b = Dn) OB σ := AV.wipe hown
  have kb : ∀ {H'}, KpS aS H1 H' → KpS aS (bare OB σ H1) H' := fun {H'} k b u e z => k b u (bare_some e) z
  refine lc_it w (fun i H' => ∃ n' acc xs, SR X.K aS OB ⟨fun b => A1 b ∨ b = Dn, A1.z⟩ H0 (L2.wipe σ (own.map (·.2))) H' (hideL s (own.map (·.2) ++ hid)) n' ∧ KpS aS H1 H' ∧ H' Dn = some (.lst xs) ∧ RepL X.K aS H' (AV aS (fun b => A1 b ∨ b = Dn) OB σ) acc xs ∧ acc.length ≤ i ∧
      sLcL g mt me (fun _ _ => False) (hideL s (own.map (·.2) ++ hid)) (ds.drop i) n' acc (fun xs n2 => ∀ a H', H a = none → KpS aS H H' → StA X.K aS H' n2 → Own X.K aS H' (fun b => AV aS A0 O σ b ∨ b = a) a (.lst xs) → Q (.ref a) H'))
    ⟨n1, [], [], S2, KpS.upd hD, upd_same, RepL.nil, Nat.zero_le _, q⟩ (fun i H' _ z => ?_) (fun i x H' H2 hi z y => ?_) (fun H' z => ?_)
  · obtain ⟨n', acc, xs, _, k1, _⟩ := z
    exact hG H' (kb k1)
  · obtain ⟨n', acc, xs, S', k1, hd, rl, hl, q'⟩ := z
    obtain ⟨k2, d, ed, rd⟩ := hY i H' x H2 n' _ hi (kb k1) S'.st (hFar eW) y
    rw [drop_get ed] at q'
    have S3 := S'.step (KpS.all k2) (S'.st.kp k2)
    refine fg aS _ H0 _ H2 _ n' d x _ _ S3 rd q' fun σ3 s3 S4 l3 o3 a3 q3 => ?_
    refine ⟨?_, ft aS _ H0 σ3 H2 s3 n' (fun _ _ => False) _ S4 (LF _) (mnt _ _ _ _ _ (fun c n2 q4 H3 k3 st3 => ?_) q3)⟩
    · have e1 := wipe_eq (vs := own.map (·.2)) l3 fun j hj => o3 j fun z => hj (hws j z)
      rw [e1]
      exact wipe_eq (wipe_length _ _) fun j hj => wipe_out hj
    · have kk : KpS aS H' H3 := (KpS.all k2).trans k3
      cases c with
      | true =>
        rw [if_pos rfl] at q4 ⊢
        refine fe aS _ H0 σ3 H3 s3 n2 (fun _ _ => False) _ (S4.step k3 st3) (LF _) (mne _ _ _ _ _ (fun y n3 q5 v H4 k4 st4 r4 => ?_) q4)
        have k5 := kk.trans k4
        refine ⟨xs, k5 _ _ hd hDs, ?_, n3, acc ++ [y], xs ++ [v], ?_, fun b u e z => ?_, upd_same, ?_, by rw [List.length_append]; exact Nat.succ_le_succ hl, q5⟩
        · rw [rl.length]
          exact Nat.lt_of_le_of_lt hl (lim_lt (Nat.lt_of_lt_of_le hi hlim))
        · exact (S'.step k5 st4).poke (.inr rfl) hDs (k5 _ _ hd hDs) hD0 (fun _ z => nomatch z) (fun _ _ z => nomatch z)
        · rw [upd_ne (ne_of_none e hD)]
          exact k5 _ _ (k1 _ _ e z) z
        · have e2 : AV aS (fun b => A1 b ∨ b = Dn) OB σ3 = AV aS (fun b => A1 b ∨ b = Dn) OB σ := a3.trans eW
          rw [e2] at r4
          exact RepL.mono (sub_poke (A := AV aS (fun b => A1 b ∨ b = Dn) OB σ) (.inl (.inr rfl)) (k5 _ _ hd hDs) (fun _ z => nomatch z)) _ _ ((rl.kp k5 S'.st AV.st).app (RepL.cons r4 RepL.nil))
      | false =>
        rw [if_neg (by decide)] at q4 ⊢
        exact ⟨n2, acc, xs, S'.step kk st3, k1.trans kk, kk _ _ hd hDs, rl.kp kk S'.st AV.st, Nat.le_succ_of_le hl, q4⟩
  · obtain ⟨n', acc, xs, S', k1, hd, rl, hl, q'⟩ := z
    rw [List.drop_length] at q'
    refine q' Dn H' hDH (kp.trans k1) S'.st ⟨xs, hd, ?_⟩
    rw [AV.plus, eA] at rl
    exact rl
end
end DL
namespace DL
open PySem PySem.Spec PyProof.Rows L2
/-! ### dict comprehensions -/
def sDcL (g : DG) (mt : EM Bool) (mk me : EM D) (xq : XQ) (s0 : Ev) : List D → Nat → List (Key × D) → (List (Key × D) → Nat → Prop) → Prop
  | [], n, acc, Q => Q acc n
  | d :: ds, n, acc, Q => g d s0 fun s1 => mt xq s1 n fun c n1 => if c = true then mk xq s1 n1 fun k n2 => me xq s1 n2 fun x n3 => ∃ kk, keyD k = some kk ∧ sDcL g mt mk me xq s0 ds n3 (putD acc kk x) Q else sDcL g mt mk me xq s0 ds n1 acc Q
section
variable {X : Cx} {E : XK} {O OB OL vs hid : List Nat} {tg e iter kx : Expr} {ifs : List Expr} {m me mk : EM D} {mi : EM (List D)} {mt : EM Bool} {mb : SM} {g : DG} {scope : Scope} {pos : Pos}
theorem mn_dcL (h1 : Mn mt) (hk : Mn mk) (h2 : Mn me) (h3 : ∀ d s Q Q', (∀ s', Q s' → Q' s') → g d s Q → g d s Q') {xq : XQ} {s0 : Ev} : ∀ (ds : List D) (n : Nat) (acc : List (Key × D)) (Q Q' : List (Key × D) → Nat → Prop), (∀ x n, Q x n → Q' x n) → sDcL g mt mk me xq s0 ds n acc Q → sDcL g mt mk me xq s0 ds n acc Q'
  | [], n, acc, Q, Q', hq, h => hq _ _ h
  | d :: ds, n, acc, Q, Q', hq, h => h3 _ _ _ _ (fun s1 h => h1 _ _ _ _ _ (fun c n1 h => by
      cases c with
      | true => exact hk _ _ _ _ _ (fun k n2 h => h2 _ _ _ _ _ (fun x n3 ⟨kk, e, h⟩ => ⟨kk, e, mn_dcL h1 hk h2 h3 ds n3 _ Q Q' hq h⟩) h) h
      | false => exact mn_dcL h1 hk h2 h3 ds n1 _ Q Q' hq h) h) h
theorem dc_fin {own : List (Str × Nat)} {ws : List Nat} {gt : TG} {tt : TT} {tk te : TE} (mnt : Mn mt) (mnk : Mn mk) (mne : Mn me) (fg : GSem X OB ws g gt) (ft : TSem X E OB mt tt) (fk : ESem X E OB mk tk) (fe : ESem X E OB me te) (hown : ∀ j ∈ own.map (·.2), j ∉ OB) (hws : ∀ j ∈ ws, j ∈ own.map (·.2))
    {aS : Addr} {A0 A1 : A0T} {H0 H H1 : Hp} {σ : L2.St} {s : Ev} {n1 : Nat} {ds : List D} {J : It} {Q : VK} (kp : KpS aS H H1) (st : StA X.K aS H1 n1) (eA : AV aS A1 OB σ = AV aS A0 O σ) (S1 : SR X.K aS OB A1 H0 σ H1 (hideL s hid) n1) (it : ItOk X.K aS A1 ds J (bare OB σ H1)) (hlim : ds.length ≤ LIM)
    (q : sDcL g mt mk me (fun _ _ => False) (hideL s (own.map (·.2) ++ hid)) ds n1 [] fun xs n2 => ∀ a H', H a = none → KpS aS H H' → StA X.K aS H' n2 → Own X.K aS H' (fun b => AV aS A0 O σ b ∨ b = a) a (.dic xs) → Q (.ref a) H') : DcW J gt tt tk te (own.map (·.2)) σ H1 Q := by
  have LF : ∀ A1, LX X.K E aS A1 H0 (fun _ _ => False) := fun _ _ _ _ _ _ _ _ _ z => z.elim
  obtain ⟨G, Y, w, hG, hY⟩ := it
  refine dc_walk w fun Dn hD => ?_
  have hDs : Dn ≠ aS := fun z => by
    obtain ⟨xs, e⟩ := st.lst
    rw [z, e] at hD
    cases hD
  have hD0 : H0 Dn = none := Option.eq_none_iff_forall_ne_some.mpr fun u z => by
    rw [S1.fr _ _ z hDs] at hD
    cases hD
  have hDH : H Dn = none := Option.eq_none_iff_forall_ne_some.mpr fun u z => by
    rw [kp _ _ z hDs] at hD
    cases hD
  have S2 : SR X.K aS OB ⟨fun b => A1 b ∨ b = Dn, A1.z⟩ H0 (L2.wipe σ (own.map (·.2))) (upd H1 Dn (.dK [])) (hideL s (own.map (·.2) ++ hid)) n1 := by
    rw [hideL_append]
    exact (SR.wipe hown S1).laidA hD
  have hFar : ∀ {σ'}, AV aS (fun b => A1 b ∨ b = Dn) OB σ' = AV aS (fun b => A1 b ∨ b = Dn) OB σ → Far aS A1 (bare OB σ H1) (AV aS (fun b => A1 b ∨ b = Dn) OB σ') := fun {σ'} e => by
    rw [e]
    refine ⟨AV.st, fun b z => ?_⟩
    rcases z with (z | z) | z | z
    · exact .inl z
    · refine .inr (.inr ?_)
      by_cases y : ∃ i, i ∈ OB ∧ σ[i]? = some (some (.ref b))
      · exact bare_own y
      · rw [bare_not y, z]; exact hD
    · exact .inr (.inl z)
    · exact .inr (.inr (bare_own z))
  have eW : AV aS (fun b => A1 b ∨ b = Dn) OB (L2.wipe σ (own.map (·.2))) = AV aS (fun b => A1 b ∨ b = Dn) OB σ := AV.wipe hown
  have kb : ∀ {H'}, KpS aS H1 H' → KpS aS (bare OB σ H1) H' := fun {H'} k b u e z => k b u (bare_some e) z
  refine ⟨(fun i H' => ∃ n' acc xs, SR X.K aS OB ⟨fun b => A1 b ∨ b = Dn, A1.z⟩ H0 (L2.wipe σ (own.map (·.2))) H' (hideL s (own.map (·.2) ++ hid)) n' ∧ KpS aS H1 H' ∧ H' Dn = some (.dK xs) ∧ RepK X.K aS H' (AV aS (fun b => A1 b ∨ b = Dn) OB σ) acc xs ∧ acc.length ≤ i ∧
      sDcL g mt mk me (fun _ _ => False) (hideL s (own.map (·.2) ++ hid)) (ds.drop i) n' acc (fun xs n2 => ∀ a H', H a = none → KpS aS H H' → StA X.K aS H' n2 → Own X.K aS H' (fun b => AV aS A0 O σ b ∨ b = a) a (.dic xs) → Q (.ref a) H'))
    , ⟨n1, [], [], S2, KpS.upd hD, upd_same, RepK.nil, Nat.zero_le _, q⟩, (fun i H' _ z => ?_), (fun i x H' H2 hi z y => ?_), (fun H' z => ?_)⟩
  · obtain ⟨n', acc, xs, _, k1, _⟩ := z
    exact hG H' (kb k1)
  · obtain ⟨n', acc, xs, S', k1, hd, rl, hl, q'⟩ := z
    obtain ⟨k2, d, ed, rd⟩ := hY i H' x H2 n' _ hi (kb k1) S'.st (hFar eW) y
    rw [drop_get ed] at q'
    have S3 := S'.step (KpS.all k2) (S'.st.kp k2)
    refine fg aS _ H0 _ H2 _ n' d x _ _ S3 rd q' fun σ3 s3 S4 l3 o3 a3 q3 => ?_
    refine ⟨?_, ft aS _ H0 σ3 H2 s3 n' (fun _ _ => False) _ S4 (LF _) (mnt _ _ _ _ _ (fun c n2 q4 H3 k3 st3 => ?_) q3)⟩
    · have e1 := wipe_eq (vs := own.map (·.2)) l3 fun j hj => o3 j fun z => hj (hws j z)
      rw [e1]
      exact wipe_eq (wipe_length _ _) fun j hj => wipe_out hj
    · have kk : KpS aS H' H3 := (KpS.all k2).trans k3
      cases c with
      | true =>
        rw [if_pos rfl] at q4 ⊢
        refine fk aS _ H0 σ3 H3 s3 n2 (fun _ _ => False) _ (S4.step k3 st3) (LF _) (mnk _ _ _ _ _ (fun yk n3 q5 vk H4 k4 st4 r4 => ?_) q4)
        refine fe aS _ H0 σ3 H4 s3 n3 (fun _ _ => False) _ (S4.step (k3.trans k4) st4) (LF _) (mne _ _ _ _ _ (fun y n4 q6 v H5 k5 st5 r5 => ?_) q5)
        have k6 := (kk.trans k4).trans k5
        obtain ⟨key, hk, q6⟩ := q6
        refine ⟨xs, key, key_rep hk (r4.b AV.st), k6 _ _ hd hDs, ?_, n4, putD acc key y, putK xs key v, ?_, fun b u e z => ?_, upd_same, ?_, Nat.le_trans (putD_len _ _ _) (Nat.succ_le_succ hl), q6⟩
        · rw [rl.length]
          exact Nat.lt_of_le_of_lt hl (lim_lt (Nat.lt_of_lt_of_le hi hlim))
        · exact (S'.step k6 st5).poke (.inr rfl) hDs (k6 _ _ hd hDs) hD0 (fun _ z => nomatch z) (fun _ _ z => nomatch z)
        · rw [upd_ne (ne_of_none e hD)]
          exact k6 _ _ (k1 _ _ e z) z
        · have e2 : AV aS (fun b => A1 b ∨ b = Dn) OB σ3 = AV aS (fun b => A1 b ∨ b = Dn) OB σ := a3.trans eW
          rw [e2] at r5
          exact RepK.mono (sub_poke (A := AV aS (fun b => A1 b ∨ b = Dn) OB σ) (.inl (.inr rfl)) (k6 _ _ hd hDs) (fun _ z => nomatch z)) _ _ ((rl.kp k6 S'.st AV.st).put key r5)
      | false =>
        rw [if_neg (by decide)] at q4 ⊢
        exact ⟨n2, acc, xs, S'.step kk st3, k1.trans kk, kk _ _ hd hDs, rl.kp kk S'.st AV.st, Nat.le_succ_of_le hl, q4⟩
  · obtain ⟨n', acc, xs, S', k1, hd, rl, hl, q'⟩ := z
    rw [List.drop_length] at q'
    refine q' Dn H' hDH (kp.trans k1) S'.st ⟨xs, hd, ?_⟩
    rw [AV.plus, eA] at rl
    exact rl
def eDc (mi : EM (List D)) (hs : List Nat) (g : DG) (mt : EM Bool) (mk me : EM D) : EM D := fun xq s n Q => mi xq s n fun ds n1 => ds.length ≤ LIM ∧ sDcL g mt mk me (fun _ _ => False) (hideL s hs) ds n1 [] fun xs n2 => Q (.dic xs) n2
theorem vf_dc {own : List (Str × Nat)} {ws : List Nat} (hc : X.calm = true) (hN : X.N.Nodup) (hi : VI X E O OB hid tg iter mi) (ok : BlkOk X.N X.env.scope scope own) (hown : ∀ j ∈ own.map (·.2), j ∉ OB) (hws : ∀ j ∈ ws, j ∈ own.map (·.2))
    (hg : ∀ c : Bk, VG (Cx.bk X scope c) OB ws tg g) (ht : ∀ c : Bk, VTs (Cx.bk X scope c) E OB ifs mt) (hk : ∀ c : Bk, VE (Cx.bk X scope c) E OB kx mk) (he : ∀ c : Bk, VE (Cx.bk X scope c) E OB e me) (hs : ∀ x, foldedSetIterable iter X.env x = pure x := by intro _; rfl) :
    VF X E O (.DictComp kx e [⟨tg, iter, ifs, 0⟩] scope pos) (eDc mi (own.map (·.2) ++ hid) g mt mk me) := by
  have mnt := (ht bk0).1
  have mne := (he bk0).1
  have mnk := (hk bk0).1
  have mng := (hg bk0).1
  obtain ⟨mni, wi, pi, fi⟩ := hi
  obtain ⟨gt, pg, fg⟩ := VG.all hg
  obtain ⟨tt, pt, ft⟩ := VTs.all ht
  obtain ⟨tk, pk, fk⟩ := VX.all hk
  obtain ⟨te, pe, fe⟩ := VX.all he
  refine ⟨fun xq s n Q Q' hq h => mni _ _ _ _ _ (fun ds n1 h => ⟨h.1, mn_dcL mnt mnk mne mng _ _ _ _ _ (fun x n2 => hq _ _) h.2⟩) h, _, pe_dc hc hN pi ok (fun s H C cl fp => pg (s, H, C, cl, fp)) (fun s H C cl fp => pt (s, H, C, cl, fp)) (fun s H C cl fp => pk (s, H, C, cl, fp)) (fun s H C cl fp => pe (s, H, C, cl, fp)) hs, fun aS A0 H0 σ H s n xq Q S L hm => ?_⟩
  refine fi aS A0 H0 σ H s n xq _ S L (mni _ _ _ _ _ (fun ds n1 q J H1 A1 kp st eA S1 it => ?_) hm)
  exact dc_fin mnt mnk mne fg ft fk fe hown hws kp st eA S1 it q.1 q.2
/-! ### over a dict -/
/-- iter walks the dict at a path -/
def VD (X : Cx) (O : List Nat) (tg iter : Expr) (p : Ev → Option D) (f : List (Key × D) → List D) : Prop := ∃ (pv : L2.St → Hp → Option V) (J : Addr → Obj → List (Key × V) → It), PI X tg iter (fun σ H R => ∃ d o kvs, pv σ H = some (.ref d) ∧ H d = some (.frz o (.dK kvs)) ∧ R (J d o kvs) H) ∧
  (∀ (aS : Addr) (A0 : A0T) (H0 : Hp) (σ : L2.St) (H : Hp) (s : Ev) (n : Nat) (d : D), SR X.K aS O A0 H0 σ H s n → p s = some d → ∃ v, pv σ H = some v ∧ Rep X.K aS H (AV aS A0 O σ) d v) ∧
  (∀ σ H b o ys, H b = some (.dK ys) → pv σ (upd H b (.frz o (.dK ys))) = pv σ H) ∧
  ∀ (aS : Addr) (A0 : A0T) (H0 : Hp) (σ : L2.St) (H : Hp) (s : Ev) (n : Nat) b o ys kvs, SR X.K aS O A0 H0 σ H s n → ¬ AV aS A0 O σ b → H b = some (.frz o (.dK ys)) → RepK X.K aS H (AV aS A0 O σ) kvs ys → ItOk X.K aS A0 (f kvs) (J b o ys) (bare O σ H)
def keysD (kvs : List (Key × D)) : List D := (kvs.map (·.1)).map kD
def itemsD (kvs : List (Key × D)) : List D := kvs.map fun kv => .tup [kD kv.1, kv.2]
def valsD (kvs : List (Key × D)) : List D := kvs.map (·.2)
theorem RepK.at {K : PySem.W.Frag} {aS : Addr} {H : Hp} {A : AS} : ∀ {ds : List (Key × D)} {vs : List (Key × V)} {i : Nat} {k : Key} {v : V}, RepK K aS H A ds vs → vs[i]? = some (k, v) → ∃ d, ds[i]? = some (k, d) ∧ Rep K aS H A d v
  | [], vs, i, k, v, h, e => by rw [RepK] at h; rw [h] at e; simp at e
  | (k', d) :: ds, vs, i, k, v, h, e => by
    rw [RepK] at h
    obtain ⟨v', vr, ev, r, q⟩ := h
    subst ev
    cases i with
    | zero =>
      simp at e
      obtain ⟨e1, e2⟩ := e
      subst e1 e2
      exact ⟨d, rfl, r⟩
    | succ i => exact RepK.at (ds := ds) (vs := vr) (i := i) q (by simpa using e)
theorem frz_on {K : PySem.W.Frag} {aS b : Addr} {A0 : AS} {H H1 : Hp} {σ : L2.St} {u : HO} (hn : ¬ AV aS A0 O σ b) (hb : H b = some u) (k : KpS aS (bare O σ H) H1) : H1 b = some u :=
  k b _ ((bare_not fun z => hn (.inr (.inr z))).trans hb) fun z => hn (.inr (.inl z))
theorem vd_keys {p : Ev → Option D} (h : VP X O e p) : VD X O tg e p keysD := by
  obtain ⟨t, pe, pv, h1, h2, h3⟩ := h
  refine ⟨pv, Itk, ⟨fun pins s σ H R I ⟨d, o, kvs, e1, e2, q⟩ => (pi_keys pe).run pins s σ H R I (h1 σ H _ _ e1 ⟨d, o, rfl, .inl ⟨kvs, e2, q⟩⟩)⟩, h2, h3, fun aS A0 H0 σ H s n b o ys kvs S hn hb r => ?_⟩
  have hl : (keysD kvs).length = ys.length := by rw [keysD, List.length_map, List.length_map, r.length]
  refine ⟨_, _, hl ▸ walk_keys, fun H1 k => frz_on (K := X.K) hn hb k, fun i H1 x H2 n A hi k st hF y => ?_⟩
  obtain ⟨e, kk, v, ek, ex⟩ := y
  subst e ex
  refine ⟨fun _ _ q => q, kD kk, ?_, rep_kD kk⟩
  have e2 : (ys.map (·.1))[i]? = some kk := by rw [List.getElem?_map, ek]; rfl
  rw [r.keys] at e2
  rw [keysD, List.getElem?_map, e2]
  rfl
theorem vd_items {p : Ev → Option D} {elts : List Expr} {kk : Nat} {tpos apos cpos : Pos} (h : VP X O e p) (hbase : attributeBase e "items" X.env (eval e X.env) = eval e X.env := by rfl) (hline : (apos.endLine == cpos.line) = true := by rfl) : VD X O (.Tuple elts kk tpos) (.Call (.Attribute e "items" apos) [] [] cpos) p itemsD := by
  obtain ⟨t, pe, pv, h1, h2, h3⟩ := h
  refine ⟨pv, Iti, ⟨fun pins s σ H R I ⟨d, o, kvs, e1, e2, q⟩ => (pi_items pe hbase hline).run pins s σ H R I (h1 σ H _ _ e1 ⟨d, o, kvs, rfl, e2, q⟩)⟩, h2, h3, fun aS A0 H0 σ H s n b o ys kvs S hn hb r => ?_⟩
  refine it_ypair walk_items (by rw [itemsD, List.length_map, r.length]) (fun H1 k => frz_on (K := X.K) hn hb k) fun i H1 A x y hi k hF ex ey => ?_
  cases e : ys[i]? with
  | none => rw [e] at ex; cases ex
  | some kv =>
    rw [e] at ex ey
    cases ex
    cases ey
    obtain ⟨d, ed, rd⟩ := RepK.at (RepK.mono (S.onBase k hF) _ _ r) e
    refine ⟨kD kv.1, d, ?_, rep_kD _, rd⟩
    rw [itemsD, List.getElem?_map, ed]
    rfl
theorem vd_values {p : Ev → Option D} {apos cpos : Pos} (h : VP X O e p) (hbase : attributeBase e "values" X.env (eval e X.env) = eval e X.env := by rfl) (hline : (apos.endLine == cpos.line) = true := by rfl) : VD X O tg (.Call (.Attribute e "values" apos) [] [] cpos) p valsD := by
  obtain ⟨t, pe, pv, h1, h2, h3⟩ := h
  refine ⟨pv, Itd, ⟨fun pins s σ H R I ⟨d, o, kvs, e1, e2, q⟩ => (pi_values pe hbase hline).run pins s σ H R I (h1 σ H _ _ e1 ⟨d, o, kvs, rfl, e2, q⟩)⟩, h2, h3, fun aS A0 H0 σ H s n b o ys kvs S hn hb r => ?_⟩
  have hl : (valsD kvs).length = ys.length := by rw [valsD, List.length_map, r.length]
  refine ⟨_, _, hl ▸ walk_values, fun H1 k => frz_on (K := X.K) hn hb k, fun i H1 x H2 n A hi k st hF y => ?_⟩
  obtain ⟨e, kk, ek⟩ := y
  subst e
  obtain ⟨d, ed, rd⟩ := RepK.at (RepK.mono (S.onBase k hF) _ _ r) ek
  refine ⟨fun _ _ q => q, d, ?_, rd⟩
  rw [valsD, List.getElem?_map, ed]
  rfl
theorem kp_unlock {aS b : Addr} {H H' : Hp} {o : Obj} {ys : List (Key × V)} (hb : H b = some (.dK ys)) (k : KpS aS (upd H b (.frz o (.dK ys))) H') : KpS aS H (upd H' b (.dK ys)) := fun c u e z => by
  by_cases y : c = b
  · rw [y, hb] at e
    cases e
    rw [y]
    exact upd_same
  · rw [upd_ne y]
    exact k c u (by rw [upd_ne y]; exact e) z
theorem LK.unlock {K : PySem.W.Frag} {aS b : Addr} {A0 : A0T} {H0 H : Hp} {σ : L2.St} {s : Ev} {n : Nat} {o : Obj} {ys : List (Key × V)} {de : DE} {De : Ends} {O O' : List Nat} (S : SR K aS O A0 H0 σ H s n) (hn : ¬ AV aS A0 O σ b) (hb : H b = some (.dK ys)) (k : LK K aS O' OL A0 H0 de De) :
    LK K aS O' OL A0 (bare O σ (upd H b (.frz o (.dK ys)))) de ⟨fun σ' H' => H' b = some (.frz o (.dK ys)) ∧ De.nx σ' (upd H' b (.dK ys)), fun v H' => H' b = some (.frz o (.dK ys)) ∧ De.rt v (upd H' b (.dK ys)), fun σ' H' => H' b = some (.frz o (.dK ys)) ∧ De.bk σ' (upd H' b (.dK ys)), fun σ' H' => H' b = some (.frz o (.dK ys)) ∧ De.ct σ' (upd H' b (.dK ys))⟩ where
  nx := fun σ' H' s' n' S' q => ⟨S.atL hn hb S'.fr, k.nx _ _ _ _ (S.unlock hn hb S') q⟩
  rt := fun v H' d n' kp st r q => ⟨S.atL hn hb kp, k.rt _ _ _ _ (S.unkp hb kp) (st.unlock (S.atL hn hb kp)) (Rep.mono (sub_unlock (S.atL hn hb kp)) _ _ r) q⟩
  bk := fun σ' H' s' n' S' q => ⟨S.atL hn hb S'.fr, k.bk _ _ _ _ (S.unlock hn hb S') q⟩
  ct := fun σ' H' s' n' S' q => ⟨S.atL hn hb S'.fr, k.ct _ _ _ _ (S.unlock hn hb S') q⟩
theorem ps_or {st : Stmt} {t u : TS} (h : PS X st t) (h' : PS X st u) : PS X st (fun D σ H => t D σ H ∨ u D σ H) := ⟨fun pins s σ H D I q => q.elim (h.run pins s σ H D I) (h'.run pins s σ H D I)⟩
theorem pe_or {t u : TE} (h : PE X e t) (h' : PE X e u) : PE X e (fun σ H Q => t σ H Q ∨ u σ H Q) := ⟨fun pins s σ H D I q => q.elim (h.run pins s σ H D I) (h'.run pins s σ H D I)⟩
def sForD (p : Ev → Option D) (f : List (Key × D) → List D) (g : DG) (mb : SM) : SM := fun xq de s n => ∃ kvs, p s = some (.dic kvs) ∧ sForL g mb (fun _ _ => False) de (f kvs) s n
theorem vs_forD {p : Ev → Option D} {f : List (Key × D) → List D} {body : List Stmt} (hp : PassesOwn (model X.prog X.w) X.A X.env X.xe) (hc : X.calm = true) (hi : VD X O tg iter p f) (hg : VG X O vs tg g) (hb : VSs X E O O O body mb)
    (hs : ∀ x, foldedSetIterable iter X.env x = pure x := by intro _; rfl) : VS X E O O OL (.For tg iter body [] pos) (sForD p f g mb) := by
  obtain ⟨pv, J, pi, h2, h3, h4⟩ := hi
  obtain ⟨_, gt, pg, fg⟩ := hg
  obtain ⟨tb, pb, fb⟩ := hb
  have ps := ps_for (pos := pos) hp hc pi pg pb hs
  refine ⟨_, ps_or ps (ps_lock ps), fun aS A0 H0 σ H s n xq de De S L k h => ?_⟩
  obtain ⟨kvs, e, q⟩ := h
  obtain ⟨v, ev, r⟩ := h2 aS A0 H0 σ H s n _ S e
  rw [Rep] at r
  obtain ⟨b, ys, eb, hn, hr, rk⟩ := r
  subst eb
  have LF : ∀ H0, LX X.K E aS A0 H0 (fun _ _ => False) := fun _ _ _ _ _ _ _ _ _ z => z.elim
  rcases hr with hr | ⟨o, hr⟩
  · refine .inr ⟨b, _, hr, trivial, fun od => ⟨b, od, ys, ?_, upd_same, ?_⟩⟩
    · rw [h3 σ H b od ys hr]; exact ev
    · have Sl := S.lock (o := od) hn hr
      exact for_fin fg fb Sl (LF _) (k.unlock S hn hr) (h4 aS A0 _ σ _ s n b od ys kvs Sl hn upd_same (RepK.mono (sub_lock hr) _ _ rk)) q
  · exact .inl ⟨b, o, ys, ev, hr, for_fin fg fb S (LF _) k (h4 aS A0 H0 σ H s n b o ys kvs S hn hr rk) q⟩
def eLcD (p : Ev → Option D) (f : List (Key × D) → List D) (hs : List Nat) (g : DG) (mt : EM Bool) (me : EM D) : EM D := fun xq s n Q => ∃ kvs, p s = some (.dic kvs) ∧ (f kvs).length ≤ LIM ∧ sLcL g mt me (fun _ _ => False) (hideL s hs) (f kvs) n [] fun xs n2 => Q (.lst xs) n2
theorem vf_lcD {p : Ev → Option D} {f : List (Key × D) → List D} {own : List (Str × Nat)} {ws : List Nat} (hc : X.calm = true) (hN : X.N.Nodup) (hi : VD X O tg iter p f) (ok : BlkOk X.N X.env.scope scope own) (hown : ∀ j ∈ own.map (·.2), j ∉ O) (hws : ∀ j ∈ ws, j ∈ own.map (·.2))
    (hg : ∀ c : Bk, VG (Cx.bk X scope c) O ws tg g) (ht : ∀ c : Bk, VTs (Cx.bk X scope c) E O ifs mt) (he : ∀ c : Bk, VE (Cx.bk X scope c) E O e me) (hs : ∀ x, foldedSetIterable iter X.env x = pure x := by intro _; rfl) :
    VF X E O (.ListComp e [⟨tg, iter, ifs, 0⟩] scope pos) (eLcD p f (own.map (·.2) ++ []) g mt me) := by
  have mnt := (ht bk0).1
  have mne := (he bk0).1
  have mng := (hg bk0).1
  obtain ⟨pv, J, pi, h2, h3, h4⟩ := hi
  obtain ⟨gt, pg, fg⟩ := VG.all hg
  obtain ⟨tt, pt, ft⟩ := VTs.all ht
  obtain ⟨te, pe, fe⟩ := VX.all he
  have pl := pe_lc (pos := pos) hc hN pi ok (fun s H C cl fp => pg (s, H, C, cl, fp)) (fun s H C cl fp => pt (s, H, C, cl, fp)) (fun s H C cl fp => pe (s, H, C, cl, fp)) hs
  refine ⟨fun xq s n Q Q' hq ⟨kvs, e, h1, h⟩ => ⟨kvs, e, h1, mn_lcL mnt mne mng _ _ _ _ _ (fun x n2 => hq _ _) h⟩, _, pe_or pl (pe_lock pl), fun aS A0 H0 σ H s n xq Q S L hm => ?_⟩
  obtain ⟨kvs, e, hl, q⟩ := hm
  obtain ⟨v, ev, r⟩ := h2 aS A0 H0 σ H s n _ S e
  rw [Rep] at r
  obtain ⟨b, ys, eb, hn, hr, rk⟩ := r
  subst eb
  have nb : b ≠ aS := fun z => hn (.inr (.inl z))
  rcases hr with hr | ⟨o, hr⟩
  · refine .inr ⟨b, _, hr, trivial, fun od => ⟨b, od, ys, ?_, upd_same, ?_⟩⟩
    · rw [h3 σ H b od ys hr]; exact ev
    · have Sl := S.lock (o := od) hn hr
      refine lc_fin (Q := fun v H' => H' b = some (.frz od (.dK ys)) ∧ Q v (upd H' b (.dK ys))) (hid := []) (A0 := A0) mnt mne fg ft fe hown hws KpS.refl Sl.st rfl Sl (h4 aS A0 _ σ _ s n b od ys kvs Sl hn upd_same (RepK.mono (sub_lock hr) _ _ rk)) hl (mn_lcL mnt mne mng _ _ _ _ _ (fun xs n2 q a H' ha kp st ow => ?_) q)
      have hb' : H' b = some (.frz od (.dK ys)) := kp _ _ upd_same nb
      have nab : a ≠ b := fun z => by rw [z, upd_same] at ha; cases ha
      refine ⟨hb', q a _ (by rw [upd_ne nab] at ha; exact ha) (kp_unlock hr kp) (st.unlock hb') (ow.mv (sub_unlock hb') fun u e _ => by rw [upd_ne nab]; exact e)⟩
  · exact .inl ⟨b, o, ys, ev, hr, lc_fin (hid := []) (A0 := A0) mnt mne fg ft fe hown hws KpS.refl S.st rfl S (h4 aS A0 H0 σ H s n b o ys kvs S hn hr rk) hl q⟩
def eDcD (p : Ev → Option D) (f : List (Key × D) → List D) (hs : List Nat) (g : DG) (mt : EM Bool) (mk me : EM D) : EM D := fun xq s n Q => ∃ kvs, p s = some (.dic kvs) ∧ (f kvs).length ≤ LIM ∧ sDcL g mt mk me (fun _ _ => False) (hideL s hs) (f kvs) n [] fun xs n2 => Q (.dic xs) n2
theorem vf_dcD {p : Ev → Option D} {f : List (Key × D) → List D} {own : List (Str × Nat)} {ws : List Nat} (hc : X.calm = true) (hN : X.N.Nodup) (hi : VD X O tg iter p f) (ok : BlkOk X.N X.env.scope scope own) (hown : ∀ j ∈ own.map (·.2), j ∉ O) (hws : ∀ j ∈ ws, j ∈ own.map (·.2))
    (hg : ∀ c : Bk, VG (Cx.bk X scope c) O ws tg g) (ht : ∀ c : Bk, VTs (Cx.bk X scope c) E O ifs mt) (hk : ∀ c : Bk, VE (Cx.bk X scope c) E O kx mk) (he : ∀ c : Bk, VE (Cx.bk X scope c) E O e me) (hs : ∀ x, foldedSetIterable iter X.env x = pure x := by intro _; rfl) :
    VF X E O (.DictComp kx e [⟨tg, iter, ifs, 0⟩] scope pos) (eDcD p f (own.map (·.2) ++ []) g mt mk me) := by
  have mnt := (ht bk0).1
  have mnk := (hk bk0).1
  have mne := (he bk0).1
  have mng := (hg bk0).1
  obtain ⟨pv, J, pi, h2, h3, h4⟩ := hi
  obtain ⟨gt, pg, fg⟩ := VG.all hg
  obtain ⟨tt, pt, ft⟩ := VTs.all ht
  obtain ⟨tk, pk, fk⟩ := VX.all hk
  obtain ⟨te, pe, fe⟩ := VX.all he
  have pl := pe_dc (pos := pos) hc hN pi ok (fun s H C cl fp => pg (s, H, C, cl, fp)) (fun s H C cl fp => pt (s, H, C, cl, fp)) (fun s H C cl fp => pk (s, H, C, cl, fp)) (fun s H C cl fp => pe (s, H, C, cl, fp)) hs
  refine ⟨fun xq s n Q Q' hq ⟨kvs, e, h1, h⟩ => ⟨kvs, e, h1, mn_dcL mnt mnk mne mng _ _ _ _ _ (fun x n2 => hq _ _) h⟩, _, pe_or pl (pe_lock pl), fun aS A0 H0 σ H s n xq Q S L hm => ?_⟩
  obtain ⟨kvs, e, hl, q⟩ := hm
  obtain ⟨v, ev, r⟩ := h2 aS A0 H0 σ H s n _ S e
  rw [Rep] at r
  obtain ⟨b, ys, eb, hn, hr, rk⟩ := r
  subst eb
  have nb : b ≠ aS := fun z => hn (.inr (.inl z))
  rcases hr with hr | ⟨o, hr⟩
  · refine .inr ⟨b, _, hr, trivial, fun od => ⟨b, od, ys, ?_, upd_same, ?_⟩⟩
    · rw [h3 σ H b od ys hr]; exact ev
    · have Sl := S.lock (o := od) hn hr
      refine dc_fin (Q := fun v H' => H' b = some (.frz od (.dK ys)) ∧ Q v (upd H' b (.dK ys))) (hid := []) (A0 := A0) mnt mnk mne fg ft fk fe hown hws KpS.refl Sl.st rfl Sl (h4 aS A0 _ σ _ s n b od ys kvs Sl hn upd_same (RepK.mono (sub_lock hr) _ _ rk)) hl (mn_dcL mnt mnk mne mng _ _ _ _ _ (fun xs n2 q a H' ha kp st ow => ?_) q)
      have hb' : H' b = some (.frz od (.dK ys)) := kp _ _ upd_same nb
      have nab : a ≠ b := fun z => by rw [z, upd_same] at ha; cases ha
      refine ⟨hb', q a _ (by rw [upd_ne nab] at ha; exact ha) (kp_unlock hr kp) (st.unlock hb') (ow.mv (sub_unlock hb') fun u e _ => by rw [upd_ne nab]; exact e)⟩
  · exact .inl ⟨b, o, ys, ev, hr, dc_fin (hid := []) (A0 := A0) mnt mnk mne fg ft fk fe hown hws KpS.refl S.st rfl S (h4 aS A0 H0 σ H s n b o ys kvs S hn hr rk) hl q⟩
end
end DL
namespace DL
open PySem PySem.Spec PyProof.Rows L2
/-! ### defs that hand back a new object -/
def VSsF (X : Cx) (E : XK) (O : List Nat) (st : List Stmt) (m : SM) : Prop := ∃ t, PSs X st t ∧ ∀ (aS : Addr) (A0 : A0T) (H0 : Hp) (σ : L2.St) (H : Hp) (s : Ev) (n : Nat) (xq : XQ) (de : DE) (De : Ends), SR X.K aS O A0 H0 σ H s n → LX X.K E aS A0 H0 xq →
  (∀ a H' d n', H0 a = none → KpS aS H0 H' → StA X.K aS H' n' → Own X.K aS H' (fun b => AV aS A0 [] [] b ∨ b = a) a d → de.rt d n' → De.rt (.ref a) H') → m xq de s n → t De σ H
def sSeqF (m r : SM) : SM := fun xq de s n => m xq { nx := fun s' n' => r xq de s' n', rt := fun _ _ => False } s n
def liftF (K : PySem.W.Frag) (len : Nat) (sp : FSp) : Sp := fun vs H Q E => ∃ (aS : Addr) (A0 : AS) (ds : List D) (n : Nat) (xq : XQ), ds.length = len ∧ RepL K aS H (AV aS A0 [] []) ds vs ∧ StA K aS H n ∧ (∀ a, A0 a → ∃ u, H a = some u) ∧ LX K E aS A0 H xq ∧
  sp.run ds n (fun d n' => ∀ a H', H a = none → KpS aS H H' → StA K aS H' n' → Own K aS H' (fun b => AV aS A0 [] [] b ∨ b = a) a d → Q (.ref a) H') xq
section
variable {X : Cx} {E : XK} {O O' : List Nat} {e : Expr} {st : Stmt} {rest : List Stmt} {m : EM D} {ms mr : SM} {pos : Pos} {i : Nat}
theorem vssF_cons (h1 : VS X E O O' [] st ms) (h2 : VSsF X E O' rest mr) : VSsF X E O (st :: rest) (sSeqF ms mr) := by
  obtain ⟨t, p, f⟩ := h1
  obtain ⟨u, p2, f2⟩ := h2
  exact ⟨_, pss_cons p p2, fun aS A0 H0 σ H s n xq de De S L k h => f aS A0 H0 σ H s n xq { nx := fun s' n' => mr xq de s' n', rt := fun _ _ => False } _ S L ⟨fun σ' H' s' n' S' q => f2 aS A0 H0 σ' H' s' n' xq de De S' L k q, fun _ _ _ _ _ _ _ z => z.elim, fun _ _ _ _ _ z => z.elim, fun _ _ _ _ _ z => z.elim⟩ h⟩
theorem vssF_ret (h : VF X E O e m) : VSsF X E O [.Return (some e) pos] (sRet m) := by
  obtain ⟨mn, t, p, f⟩ := h
  refine ⟨_, pss_one (ps_ret p), fun aS A0 H0 σ H s n xq de De S L k h => f aS A0 H0 σ H s n xq _ S L (mn _ _ _ _ _ (fun d n' q a H' ha kp st o => k a H' d n' ?_ (S.fr.trans kp) st (o.mono fun b z => ?_) q) h)⟩
  · refine Option.eq_none_iff_forall_ne_some.mpr fun u z => ?_
    rw [S.fr _ _ z fun y => S.new ha (.inr (.inl y))] at ha
    cases ha
  · exact z.elim (fun z => .inl (av_nil b z)) .inr
theorem vssF_retO {x : Str} {p' : Pos} (hi : i ∈ O) (hN : X.N[i]? = some x) (hv : Vis X.env.scope x) (hd : (x == ("__debug__" : Str)) = false := by decide) (hcd : (x == ("__classdict__" : Str)) = false := by decide) : VSsF X E O [.Return (some (.Name x p')) pos] (sRet (eVar i)) := by
  refine ⟨_, pss_one (ps_ret (pe_var hN hv hd hcd)), fun aS A0 H0 σ H s n xq de De S L k h => ?_⟩
  obtain ⟨d, e, q⟩ := h
  obtain ⟨d', a, e1, e2, e3, e4, e5, e6⟩ := S.ow i hi
  rw [e] at e1
  cases e1
  exact ⟨.ref a, e2, k a H d n e3 S.fr S.st (e6.mono fun b z => z.elim (fun z => av_nil b z) fun z => .inr (.inr ⟨i, hi, z ▸ e2⟩)) q⟩
variable {P : Program} {w : World} {K : PySem.W.Frag} {mg : Str → Option Value} {base : Heap} {x qual : Str} {params : Arguments} {body : List Stmt} {scope : Scope} {dvs : List V} {kws : List (Str × V)} {f : Addr} {fd : FuncData}
theorem dfnF {N ps : List Str} {k : Nat} {sp : FSp} {m : SM} (F : FunD K x qual params body scope dvs kws f fd) (Sc : FnScope N ps scope)
    (hb : ∀ (cdv : Value) (A : Around) (outer : List Env) (s : Shared) (H : Hp) (E : XK), Room k (A.deeper (envOfC qual scope s.heap.objs.size f cdv)) → VSsF (cxOf CX0 P w K mg base N qual scope f cdv A outer s H E).nox E [] body m)
    (hm : ∀ ds n Q xq, ds.length = ps.length → sp.run ds n Q xq → m xq { nx := fun _ _ => False, rt := Q } (startD N ds) n) : FnOk P w K mg base CX0 (k + 1) f fd ps (liftF K ps.length sp) := by
  refine F.ok Sc (fun vs H Q E h => ?_) (fun cdv A outer s H vs Q E hr h => ?_)
  · obtain ⟨aS, A0, ds, n, xq, hl, r, _⟩ := h
    rw [r.length, hl]
  · obtain ⟨aS, A0, ds, n, xq, hl, r, st, av, L, q⟩ := h
    obtain ⟨t, p, ft⟩ := hb cdv A outer s H E hr
    refine ⟨t, p.nox, ft aS ⟨A0, none⟩ H _ H _ n xq _ _ (SR.start r st av) L ?_ (hm ds n _ xq hl q)⟩
    exact fun a H' d n' ha kp st o q => q a H' ha kp st o
end
section
variable {X : Cx} {E : XK} {O : List Nat} {e : Expr} {es : List Expr} {ml : EM (List D)} {pos p : Pos} {x : Str} {f : Addr} {fd : FuncData} {ps : List Str} {k : Nat} {sp : FSp} {dds : List D} {dvs : List V} {us : List Value}
theorem SR.callF {K : PySem.W.Frag} {aS : Addr} {A0 : A0T} {H0 H : Hp} {σ : L2.St} {s : Ev} {n len : Nat} {ds : List D} {vs : List V} {xq : XQ} {Q : VK} (S : SR K aS O A0 H0 σ H s n) (hl : ds.length = len) (r : RepL K aS H (AV aS A0 O σ) ds vs)
    (q : sp.run ds n (fun d n' => ∀ a H', H a = none → KpS aS H H' → StA K aS H' n' → Own K aS H' (fun b => AV aS A0 O σ b ∨ b = a) a d → Q (.ref a) H') xq) : liftF K len sp vs H Q ET := by
  have eA : AV aS (AV aS A0 O σ) [] [] = AV aS A0 O σ := AV.of AV.st
  refine ⟨aS, AV aS A0 O σ, ds, n, xq, hl, by rw [eA]; exact r, S.st, S.cn.dom, fun _ _ _ _ _ _ _ _ _ => trivial, ?_⟩
  rw [eA]
  exact q
theorem vf_call (F : FnOk X.prog X.w X.K X.mg X.base CX0 k f fd ps (liftF X.K ps.length sp)) (hr : Room k X.A) (hg : Gl X x) (hm : X.mg x = some (.ref f)) (hk : PySem.W.keepIn X.K (.ref f) = true) (hb : Binds X.K fd ps us) (hd : Vals dvs us)
    (hdd : ∀ aS H A, RepL X.K aS H A dds dvs) (ha : VA Rep X E O (e :: es) ml) (hdb : (x == ("__debug__" : Str)) = false := by decide)
    (he : starEach (e :: es) X.env = (false, eval e X.env) :: starEach es X.env := by rfl) (hpl : (backTo pos (starEach es X.env)).any (·.1) = false := by rfl) : VF X E O (.Call (.Name x p) (e :: es) [] pos) (eCall ps.length sp dds ml) := by
  obtain ⟨mn, t, pa, ft⟩ := ha
  refine ⟨mn_call mn, _, pe_call F hr hg hm hk hb hd passT pa hdb he hpl, fun aS A0 H0 σ H s n xq Q S L hm => ?_⟩
  refine ft aS A0 H0 σ H s n xq _ S L (mn _ _ _ _ _ (fun ds n1 q vs H1 k1 st1 r1 => ?_) hm)
  have S1 := S.step k1 st1
  refine S1.callF q.1 ((RL.repL r1).app (hdd aS H1 _)) (sp.mn _ _ _ _ _ (fun d n' w a H' ha kp st o => w a H' ?_ (k1.trans kp) st o) q.2)
  refine Option.eq_none_iff_forall_ne_some.mpr fun u z => ?_
  rw [k1 _ _ z fun y => S1.new ha (.inr (.inl y))] at ha
  cases ha
end
end DL
namespace DL
open PySem PySem.Spec PyProof.Rows L2
/-! ### defs by their global names -/
def GFn (P : Program) (w : World) (K : PySem.W.Frag) (mg : Str → Option Value) (base : Heap) (x : Str) (k : Nat) (ps : List Str) (L : Sp) : Prop := ∃ f fd, mg x = some (.ref f) ∧ PySem.W.keepIn K (.ref f) = true ∧ Binds K fd ps [] ∧ FnOk P w K mg base CX0 k f fd ps L
theorem Room.le {k k' : Nat} {A : Around} (h : Room k' A) (hk : k ≤ k') : Room k A := ⟨h.hd, by have := h.dp; omega, by have := h.un; omega⟩
theorem Room.u {k : Nat} {A : Around} (h : Room k A) : A.units + 1 < cLine := by have := h.un; omega
theorem Room.u64 {k : Nat} {A : Around} (h : Room k A) : A.units + 64 < cLine := by have := h.un; omega
theorem Room.u65 {k : Nat} {A : Around} (h : Room k A) : A.units + 65 < cLine := by have := h.un; omega
section
variable {X : Cx} {E : XK} {O : List Nat} {e : Expr} {es : List Expr} {ml : EM (List D)} {pos p : Pos} {x : Str} {ps : List Str} {k k' : Nat} {sp : FSp}
theorem ve_g {len : Nat} (hl : ps.length = len) (G : GFn X.prog X.w X.K X.mg X.base x k ps (lift X.K len sp)) (hr : Room k' X.A) (hk : k ≤ k') (hg : Gl X x) (ha : VA Rep X E O (e :: es) ml) (hdb : (x == ("__debug__" : Str)) = false := by decide)
    (he : starEach (e :: es) X.env = (false, eval e X.env) :: starEach es X.env := by rfl) (hpl : (backTo pos (starEach es X.env)).any (·.1) = false := by rfl) : VE X E O (.Call (.Name x p) (e :: es) [] pos) (eCall len sp [] ml) := by
  subst hl
  obtain ⟨f, fd, h1, h2, h3, h4⟩ := G
  exact ve_call h4 (DL.Room.le hr hk) hg h1 h2 h3 .nil (fun _ _ _ => RepL.nil) ha hdb he hpl
theorem vf_g {len : Nat} (hl : ps.length = len) (G : GFn X.prog X.w X.K X.mg X.base x k ps (liftF X.K len sp)) (hr : Room k' X.A) (hk : k ≤ k') (hg : Gl X x) (ha : VA Rep X E O (e :: es) ml) (hdb : (x == ("__debug__" : Str)) = false := by decide)
    (he : starEach (e :: es) X.env = (false, eval e X.env) :: starEach es X.env := by rfl) (hpl : (backTo pos (starEach es X.env)).any (·.1) = false := by rfl) : VF X E O (.Call (.Name x p) (e :: es) [] pos) (eCall len sp [] ml) := by
  subst hl
  obtain ⟨f, fd, h1, h2, h3, h4⟩ := G
  exact vf_call h4 (DL.Room.le hr hk) hg h1 h2 h3 .nil (fun _ _ _ => RepL.nil) ha hdb he hpl
end
section
variable {P : Program} {w : World} {K : PySem.W.Frag} {mg : Str → Option Value} {base : Heap} {x : Str} {params : Arguments} {body : List Stmt} {scope : Scope} {f : Addr} {fd : FuncData}
/-- a call's own context -/
abbrev CxD (P : Program) (w : World) (K : PySem.W.Frag) (mg : Str → Option Value) (base : Heap) (N : List Str) (qual : Str) (scope : Scope) (f : Addr) (cdv : Value) (A : Around) (outer : List Env) (s : Shared) (H : Hp) (E : XK) : Cx := (cxOf CX0 P w K mg base N qual scope f cdv A outer s H E).nox
def Body (P : Program) (w : World) (K : PySem.W.Frag) (mg : Str → Option Value) (base : Heap) (N : List Str) (qual : Str) (scope : Scope) (k : Nat) (O O' : List Nat) (body : List Stmt) (m : SM) : Prop :=
  ∀ (f : Addr) (cdv : Value) (A : Around) (outer : List Env) (s : Shared) (H : Hp) (E : XK), Room k (A.deeper (envOfC qual scope s.heap.objs.size f cdv)) → VSs (CxD P w K mg base N qual scope f cdv A outer s H E) E O O' [] body m
def BodyF (P : Program) (w : World) (K : PySem.W.Frag) (mg : Str → Option Value) (base : Heap) (N : List Str) (qual : Str) (scope : Scope) (k : Nat) (body : List Stmt) (m : SM) : Prop :=
  ∀ (f : Addr) (cdv : Value) (A : Around) (outer : List Env) (s : Shared) (H : Hp) (E : XK), Room k (A.deeper (envOfC qual scope s.heap.objs.size f cdv)) → VSsF (CxD P w K mg base N qual scope f cdv A outer s H E) E [] body m
def Meets (len : Nat) (N : List Str) (sp : FSp) (m : SM) : Prop := ∀ ds n Q xq, ds.length = len → sp.run ds n Q xq → m xq { nx := fun _ n' => Q .non n', rt := Q } (startD N ds) n
def MeetsF (len : Nat) (N : List Str) (sp : FSp) (m : SM) : Prop := ∀ ds n Q xq, ds.length = len → sp.run ds n Q xq → m xq { nx := fun _ _ => False, rt := Q } (startD N ds) n
def MeetsI (C : Addr) (len : Nat) (N : List Str) (sp : FSp) (m : SM) : Prop := ∀ ds n Q xq, ds.length + 1 = len → sp.run ds n Q xq → m xq { nx := fun s' n' => ∃ fs, s'[0]? = some (some (.obj C fs)) ∧ Q (.obj C fs) n', rt := fun _ _ => False } (startD N (.obj C [] :: ds)) n
abbrev BindOk (x : Str) (params : Arguments) (body : List Stmt) (scope : Scope) (ps : List Str) : Prop := ∀ (kV doc pm : Value) (an : Option Addr) (cdv ct : Value) (us : List Value), us.length = ps.length → bindArgs (PySem.W.fnOf x x params body scope Value.none kV doc pm an cdv ct) { pos := us } = pure (ps.zip us)
theorem gfn {N ps : List Str} {k : Nat} {sp : FSp} {m : SM} {O' : List Nat} (F : FunD K x x params body scope [] [] f fd) (hg : mg x = some (.ref f)) (Sc : FnScope N ps scope) (hb : BindOk x params body scope ps)
    (B : Body P w K mg base N x scope k [] O' body m) (hm : Meets ps.length N sp m) : GFn P w K mg base x (k + 1) ps (lift K ps.length sp) :=
  ⟨f, fd, hg, F.kp, F.bindsN hb, dfn F Sc (fun cdv A outer s H E hr => B f cdv A outer s H E hr) hm⟩
theorem gfnF {N ps : List Str} {k : Nat} {sp : FSp} {m : SM} (F : FunD K x x params body scope [] [] f fd) (hg : mg x = some (.ref f)) (Sc : FnScope N ps scope) (hb : BindOk x params body scope ps)
    (B : BodyF P w K mg base N x scope k body m) (hm : MeetsF ps.length N sp m) : GFn P w K mg base x (k + 1) ps (liftF K ps.length sp) :=
  ⟨f, fd, hg, F.kp, F.bindsN hb, dfnF F Sc (fun cdv A outer s H E hr => B f cdv A outer s H E hr) hm⟩
end
def spNever : FSp := ⟨fun _ _ _ _ => False, fun _ _ _ _ _ _ h => h⟩
end DL
namespace DL
open PySem PySem.Spec PyProof.Rows L2
/-! ### classes -/
def GMk (P : Program) (w : World) (K : PySem.W.Frag) (mg : Str → Option Value) (base : Heap) (x : Str) (C : Addr) (k : Nat) (ps : List Str) (dds : List D) (sp : FSp) : Prop := ∃ f fd us dvs, mg x = some (.ref C) ∧ Mk K C f ∧ Binds K fd ps us ∧ Vals dvs us ∧ (∀ aS H A, RepL K aS H A dds dvs) ∧
  (∀ ds n Q xq, sp.run ds n Q xq → sp.run ds n (fun d n' => (∃ fs, d = .obj C fs) ∧ Q d n') xq) ∧ FnOk P w K mg base CX0 k f fd ps (liftI K C ps.length sp)
def GMe (P : Program) (w : World) (K : PySem.W.Frag) (mg : Str → Option Value) (base : Heap) (C : Addr) (m : Str) (k : Nat) (ps : List Str) (dds : List D) (L : Sp) : Prop := ∃ f fd us dvs, Cls K C ∧ Meth K C m f ∧ Binds K fd ps us ∧ Vals dvs us ∧ (∀ aS H A, RepL K aS H A dds dvs) ∧ FnOk P w K mg base CX0 k f fd ps L
section
variable {X : Cx} {E : XK} {O : List Nat} {e o : Expr} {es : List Expr} {mo : EM D} {ml : EM (List D)} {pos p apos : Pos} {x m : Str} {C : Addr} {ps : List Str} {k k' : Nat} {sp : FSp} {dds : List D}
theorem vf_mk {len : Nat} (hl : ps.length = len) (G : GMk X.prog X.w X.K X.mg X.base x C k ps dds sp) (hr : Room k' X.A) (hk : k + 1 ≤ k') (hg : Gl X x) (ha : VA Rep X E O (e :: es) ml) (hdb : (x == ("__debug__" : Str)) = false := by decide)
    (he : starEach (e :: es) X.env = (false, eval e X.env) :: starEach es X.env := by rfl) (hpl : (backTo pos (starEach es X.env)).any (·.1) = false := by rfl) : VF X E O (.Call (.Name x p) (e :: es) [] pos) (eMake len sp dds ml) := by
  subst hl
  obtain ⟨f, fd, us, dvs, h1, h2, h3, h4, h5, h6, h7⟩ := G
  exact vf_make h2 h7 (DL.Room.le hr hk) hg h1 h3 h4 h5 h6 ha hdb he hpl
theorem ve_me {len : Nat} {pl : Sem Bool} (hl : ps.length = len) (G : GMe X.prog X.w X.K X.mg X.base C m k ps dds (lift X.K len sp)) (hr : Room k' X.A) (hk : k ≤ k') (ho : VE X E O o mo) (ha : VA Rep X E O (e :: es) ml)
    (he : starEach (e :: es) X.env = (false, eval e X.env) :: starEach es X.env := by rfl) (hpl : (backTo pos (starEach es X.env)).any (·.1) = false := by rfl)
    (hev : eval ((o.Attribute m apos).Call (e :: es) [] pos) X.env = (do let ov ← eval o X.env; standAt apos.atName; let __x ← holding [ov] (getMethod ov m pl); match __x with | (f, first) => callWith pos f first (backTo pos (starEach (e :: es) X.env)) (backToKw pos (keywordEach [] X.env))) := by rfl) :
    VE X E O (.Call (.Attribute o m apos) (e :: es) [] pos) (eMeth C m len sp dds mo ml) := by
  subst hl
  obtain ⟨f, fd, us, dvs, h1, h2, h3, h4, h5, h6⟩ := G
  exact ve_meth (pe := fun _ _ => True) ho ha (fun p1 p2 => pe_meth p1 h1 h2 h6 (DL.Room.le hr hk) h3 h4 passT p2 he hpl hev) h5
theorem ve_me0 {len : Nat} {pl : Sem Bool} (hl : ps.length = len) (G : GMe X.prog X.w X.K X.mg X.base C m k ps dds (lift X.K len sp)) (hr : Room k' X.A) (hk : k ≤ k') (ho : VE X E O o mo)
    (hev : eval ((o.Attribute m apos).Call [] [] pos) X.env = (do let ov ← eval o X.env; standAt apos.atName; let __x ← holding [ov] (getMethod ov m pl); match __x with | (f, first) => callWith pos f first (backTo pos (starEach [] X.env)) (backToKw pos (keywordEach [] X.env))) := by rfl) :
    VE X E O (.Call (.Attribute o m apos) [] [] pos) (eMeth C m len sp dds mo eNil) := by
  subst hl
  obtain ⟨f, fd, us, dvs, h1, h2, h3, h4, h5, h6⟩ := G
  obtain ⟨mn1, t1, p1, f1⟩ := ho
  refine ⟨mn_meth mn1 (fun _ _ _ _ _ hq h => hq _ _ h), _, pe_meth0 p1 h1 h2 h6 (DL.Room.le hr hk) h3 h4 passT hev, fun aS A0 H0 σ H s n xq Q S L hm => ?_⟩
  refine f1 aS A0 H0 σ H s n xq _ S L (mn1 _ _ _ _ _ (fun d n1 q v H1 k1 st1 r1 => ?_) hm)
  obtain ⟨fs, ed, hlk, q⟩ := q
  subst ed
  have r1' := r1
  rw [Rep] at r1'
  obtain ⟨a, dx, ys, ev, na, hq, rf⟩ := r1'
  have hy : ys.lookup m = none := by
    rcases repF_look m rf with z | ⟨_, _, z, _⟩
    · exact z.2
    · rw [hlk] at z; cases z
  refine ⟨a, dx, ys, ev, hq, hy, ?_⟩
  subst ev
  exact (S.step k1 st1).call q.1 (RepL.cons r1 (h5 aS H1 _)) (sp.mn _ _ _ _ _ (fun d n' w v H' kp st r => w v H' (k1.trans kp) st r) q.2)
end
end DL
namespace DL
open PySem PySem.Spec PyProof.Rows L2
def sSetF (i : Nat) (m : EM D) : SM := fun xq de s n => i < s.length ∧ sSet i m xq de s n
def sParFF (i j : Nat) (ma mb : EM D) : SM := fun xq de s n => i < s.length ∧ j < s.length ∧ sPar i j ma mb (fun _ _ => False) de s n
def sParEF (i j : Nat) (ma mb : EM D) : SM := fun xq de s n => j < s.length ∧ sPar i j ma mb xq de s n
def eOwn (i : Nat) : EM (List D) := fun xq s n Q => ∃ ds, s[i]? = some (some (.lst ds)) ∧ Q ds n
def GOk (g : DG) : Prop := ∀ d s Q, g d s Q → ∃ s', Q s'
def GsOk (g : DGs) (n : Nat) : Prop := ∀ ds s Q, g ds s Q → ds.length = n ∧ ∃ s', Q s'
theorem gok_nm {i : Nat} : GOk (gNm i) := fun d s Q h => ⟨_, h⟩
theorem gok_tp {g : DGs} {n : Nat} (h : GsOk g n) : GOk (gTp g) := fun d s Q ⟨ds, _, q⟩ => (h ds s Q q).2
theorem gsok_nil : GsOk gsNil 0 := fun ds s Q ⟨e, q⟩ => ⟨by rw [e]; rfl, _, q⟩
theorem gsok_cons {g : DG} {r : DGs} {n : Nat} (h : GOk g) (h2 : GsOk r n) : GsOk (gsCons g r) (n + 1) := fun ds s Q ⟨d, dr, e, q⟩ => by
  obtain ⟨s', q⟩ := h _ _ _ q
  obtain ⟨e2, q⟩ := h2 _ _ _ q
  exact ⟨by rw [e, List.length_cons, e2], q⟩
section
variable {X : Cx} {E : XK} {O OL : List Nat} {a b c e : Expr} {ma mb mc m : EM D} {pos : Pos} {i j : Nat} {x y : Str}
theorem vs_parEF {px py pt : Pos} {kt k2 pt2} (hi : i ∉ O) (hj : j ∉ O) (hj0 : j ≠ 0) (hc : X.calm = true) (hN : X.N.Nodup) (hNi : X.N[i]? = some x) (hNj : X.N[j]? = some y) (hij : i ≠ j) (hx : X.env.scope.names.lookup x = some .local) (hy : X.env.scope.names.lookup y = some .local)
    (ha : VE X E O a ma) (hb : VF X E O b mb) (hw : swappedStores [.Tuple [.Name x px, .Name y py] kt pt] (.Tuple [a, b] k2 pt2) X.env = pure (some [x, y]))
    (hs : swapsWithSole [.Tuple [.Name x px, .Name y py] kt pt] (.Tuple [a, b] k2 pt2) pos.line X.env = pure false := by rfl) (hs1 : starEach [a, b] X.env = (false, eval a X.env) :: starEach [b] X.env := by rfl) (hs2 : starEach [b] X.env = (false, eval b X.env) :: starEach [] X.env := by rfl) :
    VS X E O (j :: O) OL (.Assign [.Tuple [.Name x px, .Name y py] kt pt] (.Tuple [a, b] k2 pt2) pos) (sParEF i j ma mb) := by
  obtain ⟨mna, ta, pa, fa⟩ := ha
  obtain ⟨mnb, tb, pb, fb⟩ := hb
  refine ⟨_, ps_par hc hN hNi hNj hij hx hy (pa_cons pa (pa_cons pb pa_nil hs2) hs1) hw hs, fun aS A0 H0 σ H s n xq de De S L k h => ?_⟩
  obtain ⟨hl2, h⟩ := h
  refine fa aS A0 H0 σ H s n _ _ S L (mna _ _ _ _ _ (fun d1 n1 q v1 H1 k1 st1 r1 => ?_) h)
  have S1 := S.step k1 st1
  refine fb aS _ H0 σ H1 s n1 _ _ S1 L (mnb _ _ _ _ _ (fun d2 n2 q2 p2 H2 z2 k2 st2 o2 => ?_) q)
  refine ⟨_, _, rfl, k.nx _ _ _ _ ((S1.set hi r1).own hj hj0 (by rw [List.length_set]; exact hl2) z2 k2 st2 ?_) q2⟩
  rw [AV.set hi]
  exact o2
end
section
variable {X : Cx} {E : XK} {O OB OL vs hid hs : List Nat} {tg e iter kx : Expr} {ifs : List Expr} {m me mk : EM D} {mi : EM (List D)} {mt : EM Bool} {mb : SM} {g : DG} {scope : Scope} {pos : Pos} {own : List (Str × Nat)} {ws : List Nat}
theorem xf_lc (hh : own.map (·.2) ++ hid = hs) (hc : X.calm = true) (hN : X.N.Nodup) (hi : VI X E O OB hid tg iter mi) (ok : BlkOk X.N X.env.scope scope own) (hown : ∀ j ∈ own.map (·.2), j ∉ OB) (hws : ∀ j ∈ ws, j ∈ own.map (·.2))
    (hg : ∀ c : Bk, VG (Cx.bk X scope c) OB ws tg g) (ht : ∀ c : Bk, VTs (Cx.bk X scope c) E OB ifs mt) (he : ∀ c : Bk, VE (Cx.bk X scope c) E OB e me) (hs' : ∀ x, foldedSetIterable iter X.env x = pure x := by intro _; rfl) :
    VF X E O (.ListComp e [⟨tg, iter, ifs, 0⟩] scope pos) (eLc mi hs g mt me) := hh ▸ vf_lc hc hN hi ok hown hws hg ht he hs'
theorem xf_dc (hh : own.map (·.2) ++ hid = hs) (hc : X.calm = true) (hN : X.N.Nodup) (hi : VI X E O OB hid tg iter mi) (ok : BlkOk X.N X.env.scope scope own) (hown : ∀ j ∈ own.map (·.2), j ∉ OB) (hws : ∀ j ∈ ws, j ∈ own.map (·.2))
    (hg : ∀ c : Bk, VG (Cx.bk X scope c) OB ws tg g) (ht : ∀ c : Bk, VTs (Cx.bk X scope c) E OB ifs mt) (hk : ∀ c : Bk, VE (Cx.bk X scope c) E OB kx mk) (he : ∀ c : Bk, VE (Cx.bk X scope c) E OB e me) (hs' : ∀ x, foldedSetIterable iter X.env x = pure x := by intro _; rfl) :
    VF X E O (.DictComp kx e [⟨tg, iter, ifs, 0⟩] scope pos) (eDc mi hs g mt mk me) := hh ▸ vf_dc hc hN hi ok hown hws hg ht hk he hs'
theorem xf_lcD {p : Ev → Option D} {f : List (Key × D) → List D} (hh : own.map (·.2) ++ [] = hs) (hc : X.calm = true) (hN : X.N.Nodup) (hi : VD X O tg iter p f) (ok : BlkOk X.N X.env.scope scope own) (hown : ∀ j ∈ own.map (·.2), j ∉ O) (hws : ∀ j ∈ ws, j ∈ own.map (·.2))
    (hg : ∀ c : Bk, VG (Cx.bk X scope c) O ws tg g) (ht : ∀ c : Bk, VTs (Cx.bk X scope c) E O ifs mt) (he : ∀ c : Bk, VE (Cx.bk X scope c) E O e me) (hs' : ∀ x, foldedSetIterable iter X.env x = pure x := by intro _; rfl) :
    VF X E O (.ListComp e [⟨tg, iter, ifs, 0⟩] scope pos) (eLcD p f hs g mt me) := hh ▸ vf_lcD hc hN hi ok hown hws hg ht he hs'
theorem xf_dcD {p : Ev → Option D} {f : List (Key × D) → List D} (hh : own.map (·.2) ++ [] = hs) (hc : X.calm = true) (hN : X.N.Nodup) (hi : VD X O tg iter p f) (ok : BlkOk X.N X.env.scope scope own) (hown : ∀ j ∈ own.map (·.2), j ∉ O) (hws : ∀ j ∈ ws, j ∈ own.map (·.2))
    (hg : ∀ c : Bk, VG (Cx.bk X scope c) O ws tg g) (ht : ∀ c : Bk, VTs (Cx.bk X scope c) E O ifs mt) (hk : ∀ c : Bk, VE (Cx.bk X scope c) E O kx mk) (he : ∀ c : Bk, VE (Cx.bk X scope c) E O e me) (hs' : ∀ x, foldedSetIterable iter X.env x = pure x := by intro _; rfl) :
    VF X E O (.DictComp kx e [⟨tg, iter, ifs, 0⟩] scope pos) (eDcD p f hs g mt mk me) := hh ▸ vf_dcD hc hN hi ok hown hws hg ht hk he hs'
/-- over a list that a slot owns -/
theorem vi_ownS {x : Str} {i : Nat} (hO : O.filter (· != i) = OB) (hi : i ∈ O) (hN : X.N[i]? = some x) (hv : Vis X.env.scope x) (hd : (x == ("__debug__" : Str)) = false := by decide) (hcd : (x == ("__classdict__" : Str)) = false := by decide) :
    VI X E O OB [i] tg (.Name x pos) (eOwn i) := hO ▸ vi_own hi hN hv hd hcd
end
end DL
namespace DL
open PySem PySem.Spec PyProof.Rows L2
/-! ### the draws -/
abbrev rAbs : List V → Hp → VK → Prop := fun xs H Q => ∃ i, xs = [.int i] ∧ Q (.int (if i < 0 then -i else i)) H
abbrev rInt1 : List V → Hp → VK → Prop := fun xs H Q => (∃ i, xs = [V.int i] ∧ Q (V.int i) H) ∨ ∃ k, xs = [V.bl k] ∧ Q (V.int (if k = true then 1 else 0)) H
abbrev rLenT (K : PySem.W.Frag) : List V → Hp → VK → Prop := fun xs H Q => ∃ x n, xs = [x] ∧ LenV K x H n ∧ Q (V.int (n : Nat)) H
abbrev rAdd : R2 := rI0 fun i j => .int (i + j)
abbrev rMul : R2 := rI CMul fun i j => .int (i * j)
abbrev rMod : R2 := rI (fun _ j => 0 < j) fun i j => .int (i % j)
abbrev rDiv : R2 := rI CDivW fun i j => .int (i / j)
abbrev rPow : R2 := rI CPow fun i j => .int (i ^ j.toNat)
def tS (K : PySem.W.Frag) (j : Int) : TE := tOp (rIxL K) (tVar 0) (tC (.int j))
def tPut (te : TE) (j : Int) : TS := tAsg te (gSub (tVar 0) (tC (.int j)) rSetL)
def t_take (K : PySem.W.Frag) : TS :=
  tSeq (tPut (tOp rAdd (tS K 4) (tC (.int 1))) 4)
  (tSeq (tWhile (tAnd (tTest (tOp rEq (tS K 2) (tC (.int 0)))) (tTest (tOp (rI0 fun i j => .bl (decide (i < j))) (tS K 1) (tCB (rLenT K) (tCons (tS K 0) tNil)))))
    (tSeq (tAsg (tCB rAbs (tCons (tOp (rIxL K) (tS K 0) (tS K 1)) tNil)) (gName 2))
    (tSeq (tPut (tOp rAdd (tS K 1) (tC (.int 1))) 1)
      (tIfS (tTest (tOp (rI0 fun i j => .bl (decide (j ≤ i))) (tVar 2) (tOp rPow (tC (.int 10)) (tC (.int 18))))) (tPut (tVar 2) 2)
        (tPut (tOp rMod (tCB rInt1 (tCons (tOp rAdd (tOp rAdd (tOp rMul (tS K 3) (tC (.int 131))) (tVar 2)) (tC (.int 1))) tNil)) (tC (.int 2147483647))) 3)))))
  (tSeq (tIfS (tTest (tOp (rI0 fun i j => .bl (decide (j < i))) (tS K 2) (tC (.int 0))))
      (tSeq (tAsg (tOp rMod (tCB rInt1 (tCons (tS K 2) tNil)) (tVar 1)) (gName 3)) (tSeq (tPut (tOp rDiv (tS K 2) (tVar 1)) 2) (tRet (tVar 3)))) tNext)
  (tSeq (tAsg (tOp rMod (tCB rInt1 (tCons (tOp rPow (tOp rAdd (tOp rAdd (tS K 3) (tOp rMul (tC (.int 7919)) (tS K 4))) (tC (.int 5))) (tC (.int 3))) tNil)) (tC (.int 1000000007))) (gName 4))
  (tSeq (tAsg (tOp rMod (tCB rInt1 (tCons (tOp rPow (tOp rAdd (tVar 4) (tOp rMul (tC (.int 31)) (tS K 4))) (tC (.int 3))) tNil)) (tC (.int 998244353))) (gName 4))
    (tRet (tOp rMod (tCB rInt1 (tCons (tOp rDiv (tVar 4) (tC (.int 3))) tNil)) (tVar 1)))))))
def sp_take (cl : Str → Addr) : FSp := ⟨fun ds n Q _ => ∃ k : Int, ds = [.st, .int k] ∧ 0 < k ∧ k < 2 ^ 32 ∧ n < 2 ^ 32 ∧ ∀ r : Int, 0 ≤ r → r < k → Q (.int r) (n + 1), fun _ _ _ _ _ hq ⟨k, h1, h2, h3, h4, h⟩ => ⟨k, h1, h2, h3, h4, fun r a b => hq _ _ (h r a b)⟩⟩
section
variable {K : PySem.W.Frag} {aS a0 : Addr} {σ : L2.St} {H : Hp} {i g m d : Int}
abbrev l5 (a0 : Addr) (i g m d : Int) : List V := [.ref a0, .int i, .int g, .int m, .int d]
theorem tS_0 {Q : VK} (h : σ[0]? = some (some (.ref aS))) (hs : H aS = some (.lst (l5 a0 i g m d))) (q : Q (.ref a0) H) : tS K 0 σ H Q := ⟨.ref aS, h, aS, _, 0, _, rfl, rfl, SqL.of hs, rfl, q⟩
theorem tS_1 {Q : VK} (h : σ[0]? = some (some (.ref aS))) (hs : H aS = some (.lst (l5 a0 i g m d))) (q : Q (.int i) H) : tS K 1 σ H Q := ⟨.ref aS, h, aS, _, 1, _, rfl, rfl, SqL.of hs, rfl, q⟩
theorem tS_2 {Q : VK} (h : σ[0]? = some (some (.ref aS))) (hs : H aS = some (.lst (l5 a0 i g m d))) (q : Q (.int g) H) : tS K 2 σ H Q := ⟨.ref aS, h, aS, _, 2, _, rfl, rfl, SqL.of hs, rfl, q⟩
theorem tS_3 {Q : VK} (h : σ[0]? = some (some (.ref aS))) (hs : H aS = some (.lst (l5 a0 i g m d))) (q : Q (.int m) H) : tS K 3 σ H Q := ⟨.ref aS, h, aS, _, 3, _, rfl, rfl, SqL.of hs, rfl, q⟩
theorem tS_4 {Q : VK} (h : σ[0]? = some (some (.ref aS))) (hs : H aS = some (.lst (l5 a0 i g m d))) (q : Q (.int d) H) : tS K 4 σ H Q := ⟨.ref aS, h, aS, _, 4, _, rfl, rfl, SqL.of hs, rfl, q⟩
theorem gs_put {j : Int} {jj : Nat} {v : V} {Q : L2.St → Hp → Prop} (h : σ[0]? = some (some (.ref aS))) (hs : H aS = some (.lst (l5 a0 i g m d))) (hj : ixN 5 j = some jj) (q : Q σ (upd H aS (.lst ((l5 a0 i g m d).set jj v)))) : gSub (tVar 0) (tC (.int j)) rSetL v σ H Q :=
  ⟨.ref aS, h, aS, _, j, jj, rfl, rfl, hs, hj, q⟩
theorem kp_put {H0 : Hp} {o : HO} (k : KpS aS H0 H) : KpS aS H0 (upd H aS o) := fun b u e z => by rw [upd_ne z]; exact k b u e z
theorem pow3 {x : Int} (h0 : 0 ≤ x) (h : x < 2 ^ 63) : CPow x 3 := ⟨by decide, by decide, by omega⟩
theorem pow3b {x d : Int} (h0 : 0 ≤ x) (h1 : x < 1000000007) (h2 : 0 ≤ d) (h3 : d < 2 ^ 33) : CPow (x + 31 * (d + 1)) 3 := pow3 (by omega) (by omega)
theorem ifT {p : Prop} [Decidable p] {A B : Prop} (h : p) (a : A) : if decide p = true then A else B := by rw [if_pos (decide_eq_true h)]; exact a
theorem ifF {p : Prop} [Decidable p] {A B : Prop} (h : ¬ p) (a : B) : if decide p = true then A else B := by rw [if_neg (by rw [decide_eq_true_eq]; exact h)]; exact a
theorem pure_take (cl : Str → Addr) (vs : List V) (H : Hp) (Q : VK) (E : XK) (h : lift K 2 (sp_take cl) vs H Q E) : t_take K { nx := fun _ H' => Q .non H', rt := Q } (L2.start ["_law_state", "_law_many", "_law_cell", "_law_digit", "_law_mixed"] vs) H := by
  obtain ⟨aS, A0, ds, n, xq, hl, r, st, av, L, k, e, hk0, hk1, hn, q⟩ := h
  subst e
  rw [RepL] at r
  obtain ⟨v1, vr, e1, r1, r⟩ := r
  rw [RepL] at r
  obtain ⟨v2, vr2, e2, r2, r⟩ := r
  rw [RepL] at r
  simp only [Rep] at r1 r2
  subst r e2 e1 r1 r2
  have q : ∀ (r : Int) H', 0 ≤ r → r < k → KpS aS H H' → StA K aS H' (n + 1) → Q (.int r) H' := fun r H' a b kp st => q r a b (.int r) H' kp st rep_int
  obtain ⟨a0, cs, i, g, m, d, hs, ha, ⟨o, ho⟩, hi, hg, hm0, hm1, hd0, hd1⟩ := st
  have sta : ∀ {H' : Hp} {i g m : Int}, KpS aS H H' → H' aS = some (.lst (l5 a0 i g m (d + 1))) → 0 ≤ i → 0 ≤ g → 0 ≤ m → m < 2147483647 → StA K aS H' (n + 1) := fun {H' i g m} kp e h1 h2 h3 h4 => ⟨a0, cs, i, g, m, d + 1, e, ha, ⟨o, kp _ _ ho ha⟩, h1, h2, h3, h4, by omega, by omega⟩
  have z0 : ∀ {c e1 e2 : Option V}, ([some (.ref aS), some (.int k), c, e1, e2] : L2.St)[0]? = some (some (.ref aS)) := rfl
  -- the count
  refine tS_4 (σ := [some (.ref aS), some (.int k), none, none, none]) rfl hs ⟨d, 1, rfl, rfl, gs_put rfl hs rfl ?_⟩
  have hs1 : upd H aS (.lst ((l5 a0 i g m d).set 4 (.int (d + 1)))) aS = some (.lst (l5 a0 i g m (d + 1))) := upd_same
  have kp1 : KpS aS H (upd H aS (.lst ((l5 a0 i g m d).set 4 (.int (d + 1))))) := kp_put KpS.refl
  -- the loop
  refine ⟨fun μ σ' H' => ∃ (i g m : Int) (c : Option V), σ' = [some (.ref aS), some (.int k), c, none, none] ∧ H' aS = some (.lst (l5 a0 i g m (d + 1))) ∧ KpS aS H H' ∧ 0 ≤ i ∧ 0 ≤ g ∧ 0 ≤ m ∧ m < 2147483647 ∧ μ = (cs.length - i).toNat,
    ⟨_, i, g, m, none, rfl, hs1, kp1, hi, hg, hm0, hm1, rfl⟩, fun μ σ' H' w => ?_⟩
  obtain ⟨i, g, m, c, rfl, hs, kp, hi, hg, hm0, hm1, hμ⟩ := w
  have ho' : H' a0 = some (.frz o (.lst (cs.map V.int))) := kp _ _ ho ha
  have rest : tSeq (tIfS (tTest (tOp (rI0 fun i j => .bl (decide (j < i))) (tS K 2) (tC (.int 0))))
      (tSeq (tAsg (tOp rMod (tCB rInt1 (tCons (tS K 2) tNil)) (tVar 1)) (gName 3)) (tSeq (tPut (tOp rDiv (tS K 2) (tVar 1)) 2) (tRet (tVar 3)))) tNext)
    (tSeq (tAsg (tOp rMod (tCB rInt1 (tCons (tOp rPow (tOp rAdd (tOp rAdd (tS K 3) (tOp rMul (tC (.int 7919)) (tS K 4))) (tC (.int 5))) (tC (.int 3))) tNil)) (tC (.int 1000000007))) (gName 4))
    (tSeq (tAsg (tOp rMod (tCB rInt1 (tCons (tOp rPow (tOp rAdd (tVar 4) (tOp rMul (tC (.int 31)) (tS K 4))) (tC (.int 3))) tNil)) (tC (.int 998244353))) (gName 4))
      (tRet (tOp rMod (tCB rInt1 (tCons (tOp rDiv (tVar 4) (tC (.int 3))) tNil)) (tVar 1))))) { nx := fun _ H' => Q .non H', rt := Q } [some (.ref aS), some (.int k), c, none, none] H' := by
    refine tS_2 rfl hs ⟨g, 0, rfl, rfl, _, rfl, ?_⟩
    by_cases hg0 : 0 < g
    · refine ifT hg0 ?_
      refine tS_2 rfl hs (.inl ⟨g, rfl, .int k, rfl, g, k, rfl, rfl, hk0, ?_⟩)
      refine tS_2 rfl hs ⟨.int k, rfl, g, k, rfl, rfl, ⟨hk0, ?_⟩, gs_put rfl hs rfl ⟨.int (g % k), rfl, q _ _ (Int.emod_nonneg _ (by omega)) (Int.emod_lt_of_pos _ hk0) (kp_put kp) (sta (kp_put kp) upd_same hi (Int.ediv_nonneg hg (by omega)) hm0 hm1)⟩⟩
      have : k.natAbs < 2 ^ 32 := by omega
      have h2 : k.natAbs.log2 < 32 := (Nat.log2_lt (by omega)).mpr this
      omega
    · refine ifF hg0 ?_
      have hp1 : 0 ≤ (m + 7919 * (d + 1) + 5) := by omega
      refine tS_3 rfl hs (tS_4 rfl hs ⟨7919, d + 1, rfl, rfl, .inl ⟨by decide, by decide⟩, m, _, rfl, rfl, _, 5, rfl, rfl, _, 3, rfl, rfl, pow3 (by omega) (by omega), .inl ⟨_, rfl, _, 1000000007, rfl, rfl, (show (0 : Int) < 1000000007 by decide), ?_⟩⟩)
      have x0 := Int.emod_nonneg ((m + 7919 * (d + 1) + 5) ^ (3 : Int).toNat) (show (1000000007 : Int) ≠ 0 by decide)
      have x1 := Int.emod_lt_of_pos ((m + 7919 * (d + 1) + 5) ^ (3 : Int).toNat) (show (0 : Int) < 1000000007 by decide)
      refine ⟨.int _, rfl, tS_4 rfl hs ⟨31, d + 1, rfl, rfl, .inl ⟨by decide, by decide⟩, _, _, rfl, rfl, _, 3, rfl, rfl, pow3b x0 x1 hd0 (by omega), .inl ⟨_, rfl, _, 998244353, rfl, rfl, (show (0 : Int) < 998244353 by decide), ?_⟩⟩⟩
      refine ⟨.int _, rfl, _, 3, rfl, rfl, ⟨by decide, by decide +kernel⟩, .inl ⟨_, rfl, .int k, rfl, _, k, rfl, rfl, hk0, q _ _ (Int.emod_nonneg _ (by omega)) (Int.emod_lt_of_pos _ hk0) kp (sta kp hs hi hg hm0 hm1)⟩⟩
  refine tS_2 rfl hs ⟨rfl, _, rfl, ?_⟩
  by_cases hg0 : g = 0
  · refine ifT (by rw [hg0]) ?_
    refine tS_1 rfl hs (tS_0 rfl hs ⟨.ref a0, cs.length, rfl, .inl ⟨_, .inl (.inr ⟨o, ho'⟩), by simp⟩, i, cs.length, rfl, rfl, _, rfl, ?_⟩)
    by_cases hlt : i < cs.length
    · refine ifT hlt ?_
      obtain ⟨j, rfl⟩ : ∃ j : Nat, i = j := ⟨i.toNat, by omega⟩
      have hj : j < cs.length := by omega
      have hat : atI (cs.map V.int) (j : Int) = some (.int cs[j]) := by
        unfold atI ixN
        rw [if_pos hi, List.length_map, if_pos hlt]
        simp [hj]
      refine ⟨fun σ' H' => ∃ (i' g m : Int) (c : Option V), σ' = [some (.ref aS), some (.int k), c, none, none] ∧ H' aS = some (.lst (l5 a0 i' g m (d + 1))) ∧ KpS aS H H' ∧ i' = j + 1 ∧ 0 ≤ g ∧ 0 ≤ m ∧ m < 2147483647, fun σ' H' z => ?_, ?_⟩
      · obtain ⟨i', g, m, c, e1, e2, e3, e4, e5, e6, e7⟩ := z
        exact ⟨(cs.length - i').toNat, by omega, i', g, m, c, e1, e2, e3, by omega, e5, e6, e7, rfl⟩
      · refine tS_0 rfl hs (tS_1 rfl hs ⟨a0, _, j, .int cs[j], rfl, rfl, .inl (.inr ⟨o, ho'⟩), hat, cs[j], rfl, ?_⟩)
        have hc0 : 0 ≤ (if cs[j] < 0 then -cs[j] else cs[j]) := by split <;> omega
        refine tS_1 (σ := [some (.ref aS), some (.int k), some (.int (if cs[j] < 0 then -cs[j] else cs[j])), none, none]) rfl hs ⟨j, 1, rfl, rfl, gs_put rfl hs rfl ?_⟩
        have hs2 : upd H' aS (.lst ((l5 a0 j g m (d + 1)).set 1 (.int (j + 1)))) aS = some (.lst (l5 a0 (j + 1) g m (d + 1))) := upd_same
        have kp2 : KpS aS H (upd H' aS (.lst ((l5 a0 j g m (d + 1)).set 1 (.int (j + 1))))) := kp_put kp
        refine ⟨.int _, rfl, 10, 18, rfl, rfl, ⟨by decide, by decide, by decide⟩, _, _, rfl, rfl, _, rfl, ?_⟩
        by_cases hbig : (10 : Int) ^ (18 : Int).toNat ≤ (if cs[j] < 0 then -cs[j] else cs[j])
        · refine ifT hbig ?_
          exact ⟨.int _, rfl, gs_put rfl hs2 rfl ⟨j + 1, _, m, _, rfl, upd_same, kp_put kp2, rfl, hc0, hm0, hm1⟩⟩
        · refine ifF hbig ?_
          refine tS_3 rfl hs2 ⟨m, 131, rfl, rfl, .inr ⟨by decide, by decide⟩, .int _, rfl, _, _, rfl, rfl, _, 1, rfl, rfl, .inl ⟨_, rfl, _, 2147483647, rfl, rfl, (show (0 : Int) < 2147483647 by decide), gs_put rfl hs2 rfl ⟨j + 1, g, _, _, rfl, upd_same, kp_put kp2, rfl, hg, Int.emod_nonneg _ (by decide), Int.emod_lt_of_pos _ (by decide)⟩⟩⟩
    · exact ifF hlt rest
  · exact ifF (fun z => hg0 (by cases z; rfl)) rest
end
end DL
namespace DL
open PySem PySem.Spec PyProof.Rows L2
/-! ### the first statement of a law -/
abbrev rListT (K : PySem.W.Frag) : List V → Hp → VK → Prop := fun xs H Q => ∃ p ys, xs = [.ref p] ∧ (SqL K H p ys ∨ SqT K H p ys) ∧ ∀ l, H l = none → Q (.ref l) (upd H l (.lst ys))
def t_fresh (K : PySem.W.Frag) : TS := tRet (tLst (tCons (tCB (rListT K) (tCons (tSl (rSlL K) (tVar 0) tNoPart (tPart (tC (.int 40)))) tNil)) (tCons (tC (.int 0)) (tCons (tC (.int 0)) (tCons (tC (.int 0)) (tCons (tC (.int 0)) tNil))))))
def spFresh (K : PySem.W.Frag) : Sp := fun vs H Q _ => ∃ (a : Addr) (ns : List Int), vs = [.ref a] ∧ SqL K H a (ns.map V.int) ∧ ∀ (l p : Addr) (cs : List Int) (H' : Hp), l ≠ p → H p = none → H l = none → (∀ b u, H b = some u → H' b = some u) → H' l = some (.lst (cs.map V.int)) → H' p = some (.lst (l5 l 0 0 0 0)) → Q (.ref p) H'
theorem cut_ints (ns : List Int) (lo hi : Option Int) : cutV (ns.map V.int) lo hi = (List.take (HT.sIx ns.length ns.length hi - HT.sIx ns.length 0 lo) (List.drop (HT.sIx ns.length 0 lo) ns)).map V.int := by
  unfold cutV
  rw [List.length_map, List.map_take, List.map_drop]
theorem pure_fresh {K : PySem.W.Frag} (vs : List V) (H : Hp) (Q : VK) (E : XK) (h : spFresh K vs H Q E) : t_fresh K { nx := fun _ H' => Q .non H', rt := Q } (L2.start ["_law_script"] vs) H := by
  obtain ⟨a, ns, rfl, hs, q⟩ := h
  refine ⟨.ref a, rfl, 40, rfl, a, _, rfl, hs, fun t ht => ?_⟩
  rw [cut_ints]
  generalize List.take (HT.sIx ns.length ns.length (some 40) - HT.sIx ns.length 0 none) (List.drop (HT.sIx ns.length 0 none) ns) = cs
  refine ⟨t, _, rfl, .inl (SqL.of upd_same), fun l hl => ⟨by rw [sizeLine_eq]; show 5 ≤ 16777216; decide, fun p hp => ?_⟩⟩
  have hlt : l ≠ t := fun z => by rw [z, upd_same] at hl; cases hl
  have hpl : p ≠ l := fun z => by rw [z, upd_same] at hp; cases hp
  have hpt : p ≠ t := fun z => by rw [z, upd_ne (Ne.symm hlt), upd_same] at hp; cases hp
  rw [upd_ne hlt] at hl
  rw [upd_ne hpl, upd_ne hpt] at hp
  refine q l p cs _ (Ne.symm hpl) hp hl (fun b u e => ?_) ?_ upd_same
  · rw [upd_ne (ne_of_none e hp), upd_ne (ne_of_none e hl), upd_ne (ne_of_none e ht)]
    exact e
  · rw [upd_ne (Ne.symm hpl)]
    exact upd_same
def spLaw (K : PySem.W.Frag) : Sp := fun vs H Q _ => ∃ (a : Addr) (ns : List Int), vs = [.ref a] ∧ SqL K H a (ns.map V.int) ∧ ∀ H', Q (.bl true) H'
/-- what stands at d is locked from here on -/
theorem pss_lock1 {X : Cx} {st : List Stmt} {t : TS} (h : PSs X st t) : PSs X st (fun D σ H => ∃ d u, H d = some u ∧ Mut (some u) ∧ ∀ od, t D σ (upd H d (.frz od u))) :=
  ⟨fun pins s σ H D inv ⟨d, u, at_, mu, run⟩ => Exists.elim (inv.lock at_ mu) fun od inv' => h.run pins s σ _ D inv' (run od)⟩
abbrev tFirst (K : PySem.W.Frag) : TS := tAsg (tCall (spFresh K) [] ET (tCons (tVar 0) tNil)) (gName 1)
section
variable {P : Program} {w : World} {K : PySem.W.Frag} {mg : Str → Option Value} {base : Heap} {x : Str} {params : Arguments} {st : Stmt} {rest : List Stmt} {scope : Scope} {f : Addr} {fd : FuncData}
theorem law_top {N : List Str} {k : Nat} {m : SM} {O' : List Nat} (F : FunD K x x params (st :: rest) scope [] [] f fd) (Sc : FnScope N ["_law_script"] scope) (hN : 2 ≤ N.length)
    (h1 : ∀ (cdv : Value) (A : Around) (outer : List Env) (s : Shared) (H : Hp) (E : XK), Room k (A.deeper (envOfC x scope s.heap.objs.size f cdv)) → PS (CxD P w K mg base N x scope f cdv A outer s H E) st (tFirst K))
    (hb : Body P w K mg base N x scope k [] O' rest m)
    (hm : m (fun _ _ => False) { nx := fun _ _ => False, rt := fun d _ => d = .bl true } (none :: some .st :: List.replicate (N.length - 2) none) 0) : FnOk P w K mg base CX0 (k + 1) f fd ["_law_script"] (spLaw K) := by
  refine F.ok Sc (fun vs H Q E h => ?_) (fun cdv A outer s H vs Q E hr h => ?_)
  · obtain ⟨a, ns, rfl, _⟩ := h
    rfl
  · obtain ⟨a, ns, rfl, hs, hq⟩ := h
    obtain ⟨t, p, ft⟩ := hb f cdv A outer s H E hr
    refine ⟨_, PSs.nox (pss_cons (h1 cdv A outer s H E hr) (pss_lock1 p)), ?_⟩
    refine ⟨.ref a, rfl, a, ns, rfl, hs, fun l p cs H' hne hp hl kp hL hP => ?_⟩
    refine ⟨l, _, hL, trivial, fun od => ?_⟩
    obtain ⟨j, hj⟩ : ∃ j, N.length = j + 2 := ⟨N.length - 2, by omega⟩
    have es : (L2.start N [V.ref a]).set 1 (some (.ref p)) = some (.ref a) :: some (.ref p) :: List.replicate j none := by
      unfold L2.start
      have e : N.length - [V.ref a].length = j + 1 := by rw [hj]; rfl
      rw [e, List.replicate_succ]
      rfl
    show t _ ((L2.start N [V.ref a]).set 1 (some (.ref p))) _
    rw [es]
    have hj2 : N.length - 2 = j := by omega
    rw [hj2] at hm
    have hP' : upd H' l (.frz od (.lst (cs.map V.int))) p = some (.lst (l5 l 0 0 0 0)) := by rw [upd_ne (Ne.symm hne)]; exact hP
    have S : SR K p [] ⟨fun _ => False, none⟩ (upd H' l (.frz od (.lst (cs.map V.int)))) (some (.ref a) :: some (.ref p) :: List.replicate j none) (upd H' l (.frz od (.lst (cs.map V.int)))) (none :: some .st :: List.replicate j none) 0 := by
      refine ⟨by rw [List.length_cons, List.length_cons, List.length_cons, List.length_cons, List.length_replicate, List.length_replicate], fun i d e _ => ?_, (fun i hi => nomatch hi), (fun i j b hi => nomatch hi), KpS.refl, ⟨l, cs, 0, 0, 0, 0, hP', hne, ⟨od, upd_same⟩, by decide, by decide, by decide, by decide, by decide, by decide⟩, (fun a h => h.elim), (fun hi => nomatch hi)⟩
      match i, e with
      | 0, e => cases e
      | 1, e => cases e; exact ⟨_, rfl, by rw [Rep]⟩
      | i + 2, e =>
        have e : (List.replicate j (none : Option D))[i]? = some (some d) := e
        rw [List.getElem?_replicate] at e
        split at e <;> cases e
    refine ft p _ _ _ _ _ 0 (fun _ _ => False) _ _ S (fun _ _ _ _ _ _ _ _ z => z.elim) ?_ hm
    refine ⟨fun _ _ _ _ _ z => z.elim, fun v H'' d n kp st r e => ?_, fun _ _ _ _ _ z => z.elim, fun _ _ _ _ _ z => z.elim⟩
    have e : d = .bl true := e
    subst e
    rw [Rep] at r
    subst r
    exact hq H''
end
end DL
namespace DL
open PySem PySem.Spec PyProof.Rows L2
section
variable {K : PySem.W.Frag} {aS a p : Addr} {H H' H0 : Hp} {A0 A1 : A0T} {O : List Nat} {σ : L2.St} {s : Ev} {n i : Nat}
theorem SR.less (S : SR K aS O A1 H0 σ H s n) (hz : A1.z = A0.z) (hle : ∀ b, A0 b → A1 b) : SR K aS O A0 H0 σ H s n := by
  have le : ∀ b, AV aS A0 O σ b → AV aS A1 O σ b := fun b z => z.elim (fun z => .inl (hle b z)) .inr
  exact ⟨S.len, fun i d h1 h2 => let ⟨v, e, r⟩ := S.sh i d h1 h2; ⟨v, e, Rep.mono (sub_le le) _ _ r⟩, fun i h => let ⟨d, a, e1, e2, e3, e4, e5, e6⟩ := S.ow i h; ⟨d, a, e1, e2, e3, fun z => e4 (hle _ z), e5, e6.mono le⟩, S.ds, S.fr, S.st, fun a h => S.av a (hle a h), fun h b e => S.pn h b (hz ▸ e)⟩
theorem SR.setN (S : SR K aS O A0 H0 σ H s n) (hi : i ∉ O) (v : V) : SR K aS O A0 H0 (σ.set i (some v)) H (s.set i none) n where
  len := by rw [List.length_set, List.length_set]; exact S.len
  sh := fun j d e hj => by
    rw [AV.set hi]
    by_cases hji : j = i
    · subst hji
      have hl : j < s.length := by
        have := (List.getElem?_eq_some_iff.mp e).1
        rwa [List.length_set] at this
      rw [List.getElem?_set_self hl] at e
      cases e
    · rw [set_other hji] at e ⊢
      exact S.sh j d e hj
  ow := fun j hj => by
    have hji : j ≠ i := fun z => hi (z ▸ hj)
    rw [AV.set hi, set_other hji, set_other hji]
    exact S.ow j hj
  ds := fun j k b hj hk e1 e2 => by
    rw [set_other (show j ≠ i from fun z => hi (z ▸ hj))] at e1
    rw [set_other (show k ≠ i from fun z => hi (z ▸ hk))] at e2
    exact S.ds j k b hj hk e1 e2
  fr := S.fr
  st := S.st
  av := S.av
  pn := fun h a e => by
    rw [set_other (show 0 ≠ i from fun z => hi (z ▸ h))]
    exact S.pn h a e
theorem LX.more {E : XK} {xq : XQ} (L : LX K E aS A0 H0 xq) (hle : ∀ b, A0 b → A1 b) : LX K E aS A1 H0 xq := fun C fs n d H' kp st h q => by
  refine L C fs n d H' kp st ?_ q
  cases d with
  | none => exact h
  | some a =>
    obtain ⟨ys, e1, e2, e3⟩ := h
    exact ⟨ys, e1, e2, RepF.mono (sub_le fun b z => z.elim (fun z => .inl (hle b z)) .inr) _ _ e3⟩
theorem none_of (k : KpS aS H H') (hs : ∃ u, H' aS = some u) (h : H' a = none) : H a = none := Option.eq_none_iff_forall_ne_some.mpr fun u z => by
  by_cases e : a = aS
  · obtain ⟨u, hs⟩ := hs
    rw [e, hs] at h
    cases h
  · rw [k _ _ z e] at h
    cases h
end
/-! k05: four new lists, each made longer behind the test -/
def sMore (f w : Nat) (m1 m2 m3 m4 : EM D) (mt : EM Bool) : SM := fun xq de s n => f < s.length ∧ w < s.length ∧ m1 xq s n fun d1 n1 => m2 xq s n1 fun d2 n2 => m3 xq s n2 fun d3 n3 => m4 xq (s.set f none) n3 fun d4 n4 =>
  ∃ l1 l2 l3 l4, d1 = .lst l1 ∧ d2 = .lst l2 ∧ d3 = .lst l3 ∧ d4 = .lst l4 ∧ l1.length ≤ LIM ∧ l2.length ≤ LIM ∧ l3.length ≤ LIM ∧ l4.length ≤ LIM ∧
    mt xq (s.set f (some (.lst [d1, d2, d3, d4]))) n4 fun c n5 => if c = true then de.rt (.bl false) n5 else de.nx ((s.set f none).set w none) n5
theorem own_at {K : PySem.W.Frag} {aS a : Addr} {H : Hp} {A : AS} {l : List D} (o : Own K aS H A a (.lst l)) : ∃ xs, H a = some (.lst xs) ∧ xs.length = l.length := by
  obtain ⟨xs, e, r⟩ := o
  exact ⟨xs, e, r.length⟩
section
variable {X : Cx} {E : XK} {O OL : List Nat} {c e1 e2 e3 e4 : Expr} {m1 m2 m3 m4 : EM D} {mt : EM Bool} {f w : Nat} {xf xw z : Str} {j j2 : Nat} {p1 p2 p3 p4 p5 p6 p7 p8 p9 p10 p11 p12 p13 p14 p15 p16 p17 p18 : Pos}
theorem vss_more (hf : f ∉ O) (hw : w ∉ O) (hfw : f ≠ w) (hp : PassesOwn (model X.prog X.w) X.A X.env X.xe) (hc : X.calm = true) (hN : X.N.Nodup) (hNf : X.N[f]? = some xf) (hNw : X.N[w]? = some xw) (hlf : L2.Loc X.env.scope xf) (hlw : L2.Loc X.env.scope xw) (hvf : Vis X.env.scope xf) (hvw : Vis X.env.scope xw)
    (h1 : VF X E O e1 m1) (h2 : VF X E O e2 m2) (h3 : VF X E O e3 m3) (h4 : VF X E O e4 m4) (ht : VT X E O c mt)
    (hff : X.fn xf = true ∨ X.env.scope.names.lookup xf = some .local := by first | exact .inl rfl | exact .inr rfl | assumption) (hfw' : X.fn xw = true ∨ X.env.scope.names.lookup xw = some .local := by first | exact .inl rfl | exact .inr rfl | assumption)
    (s1 : starEach [e1, e2, e3] X.env = (false, eval e1 X.env) :: starEach [e2, e3] X.env := by rfl) (s2 : starEach [e2, e3] X.env = (false, eval e2 X.env) :: starEach [e3] X.env := by rfl) (s3 : starEach [e3] X.env = (false, eval e3 X.env) :: starEach [] X.env := by rfl) (s4 : starEach [e4] X.env = (false, eval e4 X.env) :: starEach [] X.env := by rfl)
    (hsw : swapsWith (.List [e1, e2, e3] p2) (some (.Name xf p1)) p3.line X.env = pure false := by rfl)
    (hpe : ∀ {to : TE} {t : TA}, PE X (.Name xf p4) to → PA X [e4] t → PE X (.Call (.Attribute (.Name xf p4) "append" p5) [e4] [] p6) (tBM X.K "list" rAppend to t) := by
      intro to t h1 h2; exact pe_bm PySem.F.plainAttrs_list PySem.F.slot_list_append PySem.F.type_list_append mt_append h1 h2)
    (hs4 : swapsWith (.Call (.Attribute (.Name xf p4) "append" p5) [e4] [] p6) none p7.line X.env = pure false := by rfl)
    (hpe2 : ∀ {to : TE} {t : TA}, PE X (.Name xw p13) to → PA X [.Constant (.str z) j2 p15] t → PE X (.Call (.Attribute (.Name xw p13) "append" p14) [.Constant (.str z) j2 p15] [] p16) (tBM X.K "list" rAppend to t) := by
      intro to t h1 h2; exact pe_bm PySem.F.plainAttrs_list PySem.F.slot_list_append PySem.F.type_list_append mt_append h1 h2)
    (hs5 : swapsWith (.Call (.Attribute (.Name xw p13) "append" p14) [.Constant (.str z) j2 p15] [] p16) none p17.line X.env = pure false := by rfl)
    (hfo : ∀ x, foldedSetIterable (.Name xf p12) X.env x = pure x := by intro _; rfl)
    (hd : (xf == ("__debug__" : Str)) = false := by decide) (hcd : (xf == ("__classdict__" : Str)) = false := by decide) (hd2 : (xw == ("__debug__" : Str)) = false := by decide) (hcd2 : (xw == ("__classdict__" : Str)) = false := by decide) :
    VSs X E O O OL [.Assign [.Name xf p1] (.List [e1, e2, e3] p2) p3, .Expr (.Call (.Attribute (.Name xf p4) "append" p5) [e4] [] p6) p7, .If c [.Return (some (.Constant (.bool false) j p8)) p9] [] p10,
      .For (.Name xw p11) (.Name xf p12) [.Expr (.Call (.Attribute (.Name xw p13) "append" p14) [.Constant (.str z) j2 p15] [] p16) p17] [] p18] (sMore f w m1 m2 m3 m4 mt) := by
  obtain ⟨mn1, t1, q1, f1⟩ := h1
  obtain ⟨mn2, t2, q2, f2⟩ := h2
  obtain ⟨mn3, t3, q3, f3⟩ := h3
  obtain ⟨mn4, t4, q4, f4⟩ := h4
  obtain ⟨mnt, tt, qt, ft⟩ := ht
  refine ⟨_, pss_cons (ps_set hN hNf hlf (pe_lst (pa_cons q1 (pa_cons q2 (pa_cons q3 pa_nil s3) s2) s1)) hsw hff) (pss_cons (ps_expr (hpe (pe_var hNf hvf hd hcd) (pa_cons q4 pa_nil s4)) hs4) (pss_cons (ps_if qt (pss_one (ps_ret pe_bl)) pss_nil)
    (pss_one (ps_for hp hc (pi_dyn (pe_var hNf hvf hd hcd)) (pg_name hN hNw hlw hfw') (pss_one (ps_expr (hpe2 (pe_var hNw hvw hd2 hcd2) (pa_cons pe_str pa_nil)) hs5)) hfo)))), fun aS A0 H0 σ H s n xq de De S L k h => ?_⟩
  obtain ⟨hlf', hlw', h⟩ := h
  have stT : ∀ {H' : Hp} {n' : Nat}, StA X.K aS H' n' → ∃ u, H' aS = some u := fun st => let ⟨xs, e⟩ := st.lst; ⟨_, e⟩
  refine f1 aS A0 H0 σ H s n xq _ S L (mn1 _ _ _ _ _ (fun d1 n1 h a1 H1 z1 k1 st1 o1 => ?_) h)
  have S1 := S.stepA k1 st1 z1 o1.there
  refine f2 aS _ H0 σ H1 s n1 xq _ S1 (L.more fun _ => .inl) (mn2 _ _ _ _ _ (fun d2 n2 h a2 H2 z2 k2 st2 o2 => ?_) h)
  have S2 := S1.stepA k2 st2 z2 o2.there
  refine f3 aS _ H0 σ H2 s n2 xq _ S2 (L.more fun _ z => .inl (.inl z)) (mn3 _ _ _ _ _ (fun d3 n3 h a3 H3 z3 k3 st3 o3 => ?_) h)
  have S3 := S2.stepA k3 st3 z3 o3.there
  refine ⟨by rw [sizeLine_eq]; show 3 ≤ 16777216; decide, fun p hp3 => ?_⟩
  have S4 := (S3.laidA (o := .lst [.ref a1, .ref a2, .ref a3]) hp3).setN hf (.ref p)
  have st4 := S4.st
  have k4 : KpS aS H3 (upd H3 p (.lst [.ref a1, .ref a2, .ref a3])) := KpS.upd hp3
  have ef : (σ.set f (some (V.ref p)))[f]? = some (some (.ref p)) := List.getElem?_set_self (by rw [S.len]; exact hlf')
  have eAf : ∀ {A : A0T}, AV aS A O (σ.set f (some (V.ref p))) = AV aS A O σ := fun {A} => AV.set hf
  have hH4 : upd H3 p (.lst [.ref a1, .ref a2, .ref a3]) p = some (.lst [.ref a1, .ref a2, .ref a3]) := upd_same
  refine ⟨.ref p, ef, .inl ⟨rfl, _, SqL.of hH4⟩, ?_⟩
  refine f4 aS _ H0 _ _ _ n3 xq _ S4 (L.more fun _ z => .inl (.inl (.inl (.inl z)))) (mn4 _ _ _ _ _ (fun d4 n4 h a4 H5 z5 k5 st5 o4 => ?_) h)
  have S5 := S4.stepA k5 st5 z5 o4.there
  have hps : p ≠ aS := fun y => S3.new hp3 (.inr (.inl y))
  have hH5 : H5 p = some (.lst [.ref a1, .ref a2, .ref a3]) := k5 _ _ hH4 hps
  refine ⟨p, _, .ref a4, rfl, rfl, hH5, by rw [sizeLine_eq]; show 3 < 16777216; decide, ?_⟩
  obtain ⟨l1, l2, l3, l4, rfl, rfl, rfl, rfl, b1, b2, b3, b4, h⟩ := h
  show tSeq _ _ _ _ (upd H5 p (.lst [.ref a1, .ref a2, .ref a3, .ref a4]))
  have hp2 : H2 p = none := none_of k3 (stT st3) hp3
  have hp1 : H1 p = none := none_of k2 (stT st2) hp2
  have hp0 : H p = none := none_of k1 (stT st1) hp1
  have h0p : H0 p = none := none_of S.fr (stT S.st) hp0
  have S6 := S5.poke (p := p) (o' := .lst [.ref a1, .ref a2, .ref a3, .ref a4]) (.inl (.inr rfl)) hps hH5 h0p (fun _ y => nomatch y) (fun _ _ y => nomatch y)
  generalize hH6 : upd H5 p (.lst [.ref a1, .ref a2, .ref a3, .ref a4]) = H6 at S6
  have hP6 : H6 p = some (.lst [.ref a1, .ref a2, .ref a3, .ref a4]) := by rw [← hH6]; exact upd_same
  have k36 : KpS aS H3 H6 := fun b u e y => by
    have nb : b ≠ p := ne_of_none e hp3
    rw [← hH6, upd_ne nb]
    exact k5 _ _ (k4 _ _ e y) y
  have k26 := k3.trans k36
  have k16 := k2.trans k26
  have k06 := k1.trans k16
  have nA : ∀ {b : Addr}, H b = none → ¬ AV aS A0 O σ b := fun hb => S.new hb
  have a2n : H a2 = none := none_of k1 (stT st1) z2
  have a3n : H a3 = none := none_of k1 (stT st1) (none_of k2 (stT st2) z3)
  have a43 : H3 a4 = none := by
    have y : a4 ≠ p := fun y => by rw [y, hH4] at z5; cases z5
    rw [upd_ne y] at z5
    exact z5
  have a4n : H a4 = none := none_of k1 (stT st1) (none_of k2 (stT st2) (none_of k3 (stT st3) a43))
  have R1 : Rep X.K aS H6 (AV aS A0 O σ) (.lst l1) (.ref a1) := (o1.rep (nA z1)).kp k16 st1 AV.st
  have R2 : Rep X.K aS H6 (AV aS A0 O σ) (.lst l2) (.ref a2) := (Own.rep (A := AV aS A0 O σ) (o2.mono fun b y => y.elim (fun y => .inl (y.elim (fun y => .inl (.inl y)) .inr)) .inr) (nA a2n)).kp k26 st2 AV.st
  have R3 : Rep X.K aS H6 (AV aS A0 O σ) (.lst l3) (.ref a3) := (Own.rep (A := AV aS A0 O σ) (o3.mono fun b y => y.elim (fun y => .inl (y.elim (fun y => .inl (.inl (.inl y))) .inr)) .inr) (nA a3n)).kp k36 st3 AV.st
  have a4p : a4 ≠ p := fun y => by rw [y, hH4] at z5; cases z5
  have R4 : Rep X.K aS H6 (AV aS A0 O σ) (.lst l4) (.ref a4) := by
    rw [eAf] at o4
    have o5 : Own X.K aS H6 (fun b => AV aS _ O σ b ∨ b = a4) a4 (.lst l4) := Own.mv (H := H5) (by rw [← hH6]; exact sub_poke (.inl (.inl (.inr rfl))) hH5 fun _ y => nomatch y) (fun u e _ => by rw [← hH6, upd_ne a4p]; exact e) o4
    exact Own.rep (A := AV aS A0 O σ) (o5.mono fun b y => y.elim (fun y => .inl (y.elim (fun y => .inl (.inl (.inl (.inl (.inl y))))) .inr)) .inr) (nA a4n)
  have RF : Rep X.K aS H6 (AV aS A0 O σ) (.lst [.lst l1, .lst l2, .lst l3, .lst l4]) (.ref p) := by
    rw [Rep]
    exact ⟨p, _, rfl, nA hp0, hP6, RepL.cons R1 (RepL.cons R2 (RepL.cons R3 (RepL.cons R4 RepL.nil)))⟩
  have st6 := S6.st
  have SF := (S.step k06 st6).set hf RF
  refine ft aS A0 H0 _ H6 _ n4 xq _ SF L (mnt _ _ _ _ _ (fun c n5 h H7 k7 st7 => ?_) h)
  cases c with
  | true => exact k.rt _ H7 _ n5 (SF.fr.trans k7) st7 rep_bl h
  | false =>
    have h : de.nx ((s.set f none).set w none) n5 := h
    have hP7 : H7 p = some (.lst [.ref a1, .ref a2, .ref a3, .ref a4]) := k7 _ _ hP6 hps
    refine ⟨.ref p, ef, .inl ⟨p, _, rfl, hP7, ?_⟩⟩
    have n1s : a1 ≠ aS := fun y => S.new z1 (.inr (.inl y))
    have n2s : a2 ≠ aS := fun y => S.new a2n (.inr (.inl y))
    have n3s : a3 ≠ aS := fun y => S.new a3n (.inr (.inl y))
    have n4s : a4 ≠ aS := fun y => S.new a4n (.inr (.inl y))
    obtain ⟨x1, y1, w1⟩ := own_at o1
    obtain ⟨x2, y2, w2⟩ := own_at o2
    obtain ⟨x3, y3, w3⟩ := own_at o3
    obtain ⟨x4, y4, w4⟩ := own_at o4
    have g1 : H7 a1 = some (.lst x1) := k7 _ _ (k16 _ _ y1 n1s) n1s
    have g2 : H7 a2 = some (.lst x2) := k7 _ _ (k26 _ _ y2 n2s) n2s
    have g3 : H7 a3 = some (.lst x3) := k7 _ _ (k36 _ _ y3 n3s) n3s
    have g4 : H7 a4 = some (.lst x4) := k7 _ _ (by rw [← hH6, upd_ne a4p]; exact y4) n4s
    have q1p : a1 ≠ p := fun y => by rw [y, hp1] at y1; cases y1
    have q2p : a2 ≠ p := fun y => by rw [y, hp2] at y2; cases y2
    have q3p : a3 ≠ p := fun y => by rw [y, hp3] at y3; cases y3
    have h0 : ∀ {b : Addr}, H b = none → H0 b = none := fun hb => none_of S.fr (stT S.st) hb
    -- the new lists
    let L4 : List Addr := [a1, a2, a3, a4]
    have hA : ∀ b ∈ L4, b ≠ p ∧ b ≠ aS ∧ H0 b = none ∧ ∃ xs, H7 b = some (.lst xs) ∧ xs.length ≤ LIM := by
      intro b hb
      have hb : b = a1 ∨ b = a2 ∨ b = a3 ∨ b = a4 := by simpa [L4] using hb
      rcases hb with rfl | rfl | rfl | rfl
      · exact ⟨q1p, n1s, h0 z1, x1, g1, by rw [w1]; exact b1⟩
      · exact ⟨q2p, n2s, h0 a2n, x2, g2, by rw [w2]; exact b2⟩
      · exact ⟨q3p, n3s, h0 a3n, x3, g3, by rw [w3]; exact b3⟩
      · exact ⟨a4p, n4s, h0 a4n, x4, g4, by rw [w4]; exact b4⟩
    have S7 := (S6.step k7 st7).less (A0 := ⟨fun b => A0 b ∨ b ∈ L4, A0.z⟩) rfl (fun b y => by
      rcases y with y | y
      · exact .inl (.inl (.inl (.inl (.inl y))))
      · have y : b = a1 ∨ b = a2 ∨ b = a3 ∨ b = a4 := by simpa [L4] using y
        rcases y with rfl | rfl | rfl | rfl
        · exact .inl (.inl (.inl (.inl (.inr rfl))))
        · exact .inl (.inl (.inl (.inr rfl)))
        · exact .inl (.inl (.inr rfl))
        · exact .inr rfl)
    have ew : ∀ {v : V}, ((σ.set f (some (V.ref p))).set w (some v))[w]? = some (some v) := List.getElem?_set_self (by rw [List.length_set, S.len]; exact hlw')
    refine for_it walk_list (fun i σ' H' => ((σ' = σ.set f (some (V.ref p)) ∧ i = 0) ∨ ∃ v, σ' = (σ.set f (some (V.ref p))).set w (some v)) ∧ SR X.K aS O ⟨fun b => A0 b ∨ b ∈ L4, A0.z⟩ H0 σ' H' ((s.set f none).set w none) n5 ∧ H' p = some (.lst [.ref a1, .ref a2, .ref a3, .ref a4]) ∧ ∀ b ∈ L4, ∃ xs, H' b = some (.lst xs) ∧ xs.length ≤ LIM + i)
      ⟨.inl ⟨rfl, rfl⟩, S7.hide hw, hP7, fun b hb => (hA b hb).2.2.2⟩ (fun i σ' H' _ y => SqL.of y.2.2.1) (fun i x σ' H' H2 hi y yy => ?_) (fun σ' H' y => ?_)
    · obtain ⟨e0, S', hP', hB⟩ := y
      obtain ⟨rfl, ex⟩ := yy
      have hi4 : i < 4 := hi
      obtain ⟨b, hb, rfl⟩ : ∃ b ∈ L4, x = .ref b := by
        have hm := List.mem_of_getElem? ex
        have hm : x = .ref a1 ∨ x = .ref a2 ∨ x = .ref a3 ∨ x = .ref a4 := by simpa using hm
        rcases hm with rfl | rfl | rfl | rfl
        · exact ⟨a1, by simp [L4], rfl⟩
        · exact ⟨a2, by simp [L4], rfl⟩
        · exact ⟨a3, by simp [L4], rfl⟩
        · exact ⟨a4, by simp [L4], rfl⟩
      obtain ⟨xs, hx, hlen⟩ := hB b hb
      obtain ⟨hbp, hbs, hb0, _⟩ := hA b hb
      have es : σ'.set w (some (.ref b)) = (σ.set f (some (V.ref p))).set w (some (.ref b)) := by
        rcases e0 with ⟨rfl, _⟩ | ⟨v, rfl⟩
        · rfl
        · rw [List.set_set]
      show tBM _ _ _ _ _ (σ'.set w (some (.ref b))) _ _
      rw [es]
      refine ⟨.ref b, ew, .inl ⟨rfl, _, SqL.of hx⟩, b, xs, _, rfl, rfl, hx, by rw [sizeLine_eq]; unfold LIM at hlen; omega, .inr ⟨_, rfl⟩, ?_, ?_, fun b' hb' => ?_⟩
      · have Sw := S'.setN hw (.ref b)
        rw [List.set_set] at Sw
        rw [es] at Sw
        exact Sw.poke (.inr hb) hbs hx hb0 (fun _ y => nomatch y) (fun _ _ y => nomatch y)
      · rw [upd_ne (Ne.symm hbp)]
        exact hP'
      · by_cases y : b' = b
        · rw [y, upd_same]
          exact ⟨_, rfl, by rw [List.length_append]; exact Nat.succ_le_succ hlen⟩
        · rw [upd_ne y]
          obtain ⟨xs', e', l'⟩ := hB b' hb'
          exact ⟨xs', e', by omega⟩
    · obtain ⟨e0, S', hP', hB⟩ := y
      exact k.nx σ' H' _ n5 (S'.less rfl fun b y => .inl y) h
end
end DL
namespace DL
open PySem PySem.Spec PyProof.Rows L2
theorem op_isBl {X : Cx} : OpR X (compareOp .Is) (fun x y H Q => ∃ a b, x = .bl a ∧ y = .bl b ∧ Q (.bl (a == b)) H) := fun _ s _ _ _ _ _ _ _ I rx ry ⟨a, b, ex, ey, q⟩ => by
  subst ex ey
  cases rx
  cases ry
  show wpAny _ _ ((isSame (Value.bool a) (Value.bool b)) >>= fun z => pure (Value.bool z)) _ _ s
  have e : (Value.bool a == Value.bool b) = (a == b) := by cases a <;> cases b <;> rfl
  have e2 : isSame (Value.bool a) (Value.bool b) = pure (a == b) := by
    rw [← e]
    rfl
  rw [e2]
  exact wpAny_bind (wpAny_pure (wpAny_pure (fin_bl I q rfl)))
def dIs (x y : D) : Option D := match x, y with
  | .bl a, .bl b => some (.bl (a == b))
  | _, _ => dIsN x y
theorem od_is {X : Cx} : OpD X (compareOp .Is) dIs := by
  obtain ⟨r, ho, hr⟩ := od_isN (X := X)
  refine ⟨_, OpR.or op_isBl ho, fun aS H A n d1 d2 d v1 v2 Q c r1 r2 e w => ?_⟩
  unfold dIs at e
  split at e
  · cases e
    exact .inl ⟨_, _, repB_bl r1, repB_bl r2, w _ H KpS.refl c.st rep_bl⟩
  · exact .inr (hr aS H A n d1 d2 d v1 v2 Q c r1 r2 e w)
section
variable {X : Cx} {E : XK} {O OB OL vs hid hs : List Nat} {tg e iter kx : Expr} {ifs : List Expr} {m me mk : EM D} {mi : EM (List D)} {mt : EM Bool} {mb : SM} {g : DG} {scope : Scope} {pos : Pos} {own : List (Str × Nat)} {ws : List Nat}
theorem xs_setLc {i : Nat} {y : Str} {py spos : Pos} (hh : own.map (·.2) ++ hid = hs) (hiO : i ∉ O) (hi0 : i ≠ 0) (hy : X.N[i]? = some y) (hyl : X.env.scope.names.lookup y = some .local)
    (hsw : swapsWith (.ListComp e [⟨tg, iter, ifs, 0⟩] scope pos) (some (.Name y py)) spos.line X.env = pure true) (hc : X.calm = true) (hN : X.N.Nodup) (hi : VI X E O OB hid tg iter mi) (ok : BlkOk X.N X.env.scope scope own) (hown : ∀ j ∈ own.map (·.2), j ∉ OB) (hws : ∀ j ∈ ws, j ∈ own.map (·.2))
    (hg : ∀ c : Bk, VG (Cx.bk X scope c) OB ws tg g) (ht : ∀ c : Bk, VTs (Cx.bk X scope c) E OB ifs mt) (he : ∀ c : Bk, VE (Cx.bk X scope c) E OB e me) (hs' : ∀ x, foldedSetIterable iter X.env x = pure x := by intro _; rfl) :
    VS X E O (i :: O) OL (.Assign [.Name y py] (.ListComp e [⟨tg, iter, ifs, 0⟩] scope pos) spos) (sSetF i (eLc mi hs g mt me)) := hh ▸ vs_setLc hiO hi0 hc hN hy hyl hsw hi ok hown hws hg ht he hs'
end
end DL
namespace DL
open PySem PySem.Spec PyProof.Rows L2
/-! ### promises, by data -/
/-- a promise: where pre, then one of the answers R -/
def FSp.rel (R : List D → Nat → (D → Nat → Prop) → Prop) (mn : ∀ ds n Q Q', (∀ d n', Q d n' → Q' d n') → R ds n Q → R ds n Q') : FSp := ⟨fun ds n Q _ => R ds n Q, fun ds n Q Q' _ hq h => mn ds n Q Q' hq h⟩
def NAMES : List Str := ["a", "b", "rice", "fish", "start", "done", "wish", "zz", "station", "clocks", "abcdefgh", "meal", "go", "wait", "cloc", "on"]
def mDone (x : Str) : D := .tup [.str "done", .str x]
def mStart (x : Str) : D := .tup [.str "start", .str x]
def GoodM (ks : List Str) (d : D) : Prop := d = .str "clock" ∨ ∃ x, x ∈ ks ∧ (d = mDone x ∨ d = mStart x)
def GoodW (ks : List Str) (d : D) : Prop := ∃ a b i, d = .tup [a, b, .int i] ∧ GoodM ks a ∧ GoodM ks b
/-- a dict with these keys -/
def KeysAre (ks : List Str) (kvs : List (Key × D)) : Prop := kvs.map (·.1) = ks.map Sum.inr
def sp_is_list (cl : Str → Addr) : FSp := .rel (fun ds n Q => ∃ x a, ds = [x] ∧ tyD x = some a ∧ Q (.bl (a == "list" || a == "tuple")) n) (fun _ _ _ _ hq ⟨x, a, e, h, q⟩ => ⟨x, a, e, h, hq _ _ q⟩)
def sp_is_integer (cl : Str → Addr) : FSp := .rel (fun ds n Q => ∃ x a, ds = [x] ∧ tyD x = some a ∧ Q (.bl (a == "int")) n) (fun _ _ _ _ hq ⟨x, a, e, h, q⟩ => ⟨x, a, e, h, hq _ _ q⟩)
def sp_is_name (cl : Str → Addr) : FSp := .rel (fun ds n Q => ∃ x, ds = [.str x] ∧ x ∈ NAMES ∧ Q (.bl true) n) (fun _ _ _ _ hq ⟨x, e, h, q⟩ => ⟨x, e, h, hq _ _ q⟩)
def sp_is_among (cl : Str → Addr) : FSp := .rel (fun ds n Q => ∃ x c b, ds = [.str x, c] ∧ dInB (.str x) c = some b ∧ Q (.bl b) n) (fun _ _ _ _ hq ⟨x, c, b, e, h, q⟩ => ⟨x, c, b, e, h, hq _ _ q⟩)
/-- tuples of texts and ints, d deep -/
def tupsD : Nat → D → Bool
  | _, .str _ => true
  | _, .int _ => true
  | d + 1, .tup xs => xs.length ≤ 1000 && xs.all (tupsD d)
  | _, _ => false
def sp_frozenN : Nat → FSp
  | 0 => spNever
  | d + 1 => .rel (fun ds n Q => ∃ x, ds = [x] ∧ tupsD d x = true ∧ Q x n) (fun _ _ _ _ hq ⟨x, e, h, q⟩ => ⟨x, e, h, hq _ _ q⟩)
def sp_frozen (cl : Str → Addr) : FSp := sp_frozenN 3
def sp_rising (cl : Str → Addr) : FSp := .rel (fun ds n Q => ∃ xs : List Str, ds = [.lst (xs.map .str)] ∧ xs.length ≤ 1000 ∧ ∀ ys : List Str, ys.Perm xs → Q (.lst (ys.map .str)) n) (fun _ _ _ _ hq ⟨x, e, h, q⟩ => ⟨x, e, h, fun ys p => hq _ _ (q ys p)⟩)
def sp_is_moment (cl : Str → Addr) : FSp := .rel (fun ds n Q => ∃ ks kvs x, ds = [x, .dic kvs] ∧ KeysAre ks kvs ∧ GoodM ks x ∧ Q (.bl true) n) (fun _ _ _ _ hq ⟨ks, kvs, x, e, h, h2, q⟩ => ⟨ks, kvs, x, e, h, h2, hq _ _ q⟩)
def sp_is_wish (cl : Str → Addr) : FSp := .rel (fun ds n Q => ∃ ks kvs x, ds = [x, .dic kvs] ∧ KeysAre ks kvs ∧ GoodW ks x ∧ Q (.bl true) n) (fun _ _ _ _ hq ⟨ks, kvs, x, e, h, h2, q⟩ => ⟨ks, kvs, x, e, h, h2, hq _ _ q⟩)
def sp_are_bounds (cl : Str → Addr) : FSp := .rel (fun ds n Q => ∃ i j : Int, ds = [.tup [.int i, .int j]] ∧ Q (.bl (decide (1 ≤ i) && decide (i ≤ j))) n) (fun _ _ _ _ hq ⟨i, j, e, q⟩ => ⟨i, j, e, hq _ _ q⟩)
def sp_is_station (cl : Str → Addr) : FSp := spNever
def sp_checked_wishes (cl : Str → Addr) : FSp := .rel (fun ds n Q => ∃ ks kvs ws, ds = [.lst ws, .dic kvs] ∧ KeysAre ks kvs ∧ ws.length ≤ 1000 ∧ (∀ w ∈ ws, GoodW ks w) ∧ Q (.tup ws) n) (fun _ _ _ _ hq ⟨ks, kvs, x, e, h, h2, h3, q⟩ => ⟨ks, kvs, x, e, h, h2, h3, hq _ _ q⟩)
def sp_Meal___init__ (cl : Str → Addr) : FSp := .rel (fun ds n Q => ∃ (ks : List Str) (ws : List D), ds = [.dic (ks.map fun x => (.inr x, .tup [.int 1, .int 2])), .lst ws, .tup []] ∧ ks.length ≤ 100 ∧ ks.Nodup ∧ (∀ x ∈ ks, x ∈ NAMES) ∧ ws.length ≤ 1000 ∧ (∀ w ∈ ws, GoodW ks w) ∧
  ∀ fs : List (Str × D), fs.lookup ("wish_row" : Str) = some (.tup ws) → fs.lookup ("wishes" : Str) = none → Q (.obj (cl "Meal") fs) n) (fun _ _ _ _ hq ⟨ks, ws, e, h0, h1, h2, h3, h4, q⟩ => ⟨ks, ws, e, h0, h1, h2, h3, h4, fun fs a b => hq _ _ (q fs a b)⟩)
def sp_Meal_wishes (cl : Str → Addr) : FSp := .rel (fun ds n Q => ∃ fs ws, ds = [.obj (cl "Meal") fs] ∧ fs.lookup ("wish_row" : Str) = some (.tup ws) ∧ Q (.lst ws) n) (fun _ _ _ _ hq ⟨fs, ws, e, h, q⟩ => ⟨fs, ws, e, h, hq _ _ q⟩)
/-- the wishes of together -/
def tgD (m : Int) (x y : Str) : D := .tup [mDone x, mDone y, .int m]
def togD (m : Int) : List Str → List D
  | [] => []
  | x :: xs => xs.flatMap (fun y => [tgD m x y, tgD m y x]) ++ togD m xs
/-- a list or tuple of texts -/
def rowD (tp : Bool) (xs : List Str) : D := if tp = true then .tup (xs.map .str) else .lst (xs.map .str)
def sp_together (cl : Str → Addr) : FSp := .rel (fun ds n Q => ∃ tp xs m, ds = [rowD tp xs, .int m] ∧ xs.length ≤ 100 ∧ Q (.lst (togD m xs)) n) (fun _ _ _ _ hq ⟨tp, xs, m, e, h, q⟩ => ⟨tp, xs, m, e, h, hq _ _ q⟩)
def sp_keeping (cl : Str → Addr) : FSp := .rel (fun ds n Q => ∃ tp xs m x, ds = [.str x, rowD tp xs, .int m] ∧ xs.length ≤ 100 ∧ Q (.lst (xs.map fun y => tgD m x y)) n) (fun _ _ _ _ hq ⟨tp, xs, m, x, e, h, q⟩ => ⟨tp, xs, m, x, e, h, hq _ _ q⟩)
def rdD (m : Int) (x : Str) : D := .tup [.str "clock", mDone x, .int m]
def sp_ready_by (cl : Str → Addr) : FSp := .rel (fun ds n Q => ∃ tp xs m, ds = [rowD tp xs, .int m] ∧ xs.length ≤ 100 ∧ Q (.lst (xs.map (rdD m))) n) (fun _ _ _ _ hq ⟨tp, xs, m, e, h, q⟩ => ⟨tp, xs, m, e, h, hq _ _ q⟩)
def bhD (m : Int) (x y : Str) : D := .tup [mStart x, mDone y, .int (0 - m)]
def sp_behind (cl : Str → Addr) : FSp := .rel (fun ds n Q => ∃ x y m, ds = [.str x, .str y, .int m] ∧ Q (.lst [bhD m x y]) n) (fun _ _ _ _ hq ⟨x, y, m, e, q⟩ => ⟨x, y, m, e, hq _ _ q⟩)
def sp__law_take (cl : Str → Addr) : FSp := sp_take cl
def sp__law_one (cl : Str → Addr) : FSp := .rel (fun ds n Q => ∃ xs, ds = [.st, .lst xs] ∧ 0 < xs.length ∧ xs.length ≤ 1000 ∧ n < 2 ^ 32 ∧ ∀ x, x ∈ xs → Q x (n + 1)) (fun _ _ _ _ hq ⟨xs, e, h1, h2, h3, q⟩ => ⟨xs, e, h1, h2, h3, fun x hx => hq _ _ (q x hx)⟩)
def sp__law_mix (cl : Str → Addr) : FSp := .rel (fun ds n Q => ∃ xs : List Str, ds = [.st, .lst (xs.map .str)] ∧ xs.length ≤ 100 ∧ (∀ x ∈ xs, PyData.strOk x = true) ∧ n < 2 ^ 31 ∧ ∀ ys : List Str, ys.Perm xs → Q (.lst (ys.map .str)) (n + xs.length)) (fun _ _ _ _ hq ⟨xs, e, h1, h1b, h2, q⟩ => ⟨xs, e, h1, h1b, h2, fun ys p => hq _ _ (q ys p)⟩)
def sp__law_some (cl : Str → Addr) : FSp := .rel (fun ds n Q => ∃ xs : List Str, ds = [.st, .lst (xs.map .str)] ∧ xs.length ≤ 100 ∧ n < 2 ^ 31 ∧ ∀ ys : List Str, ys.Sublist xs → Q (.lst (ys.map .str)) (n + xs.length)) (fun _ _ _ _ hq ⟨xs, e, h1, h2, q⟩ => ⟨xs, e, h1, h2, fun ys p => hq _ _ (q ys p)⟩)
/-- texts, ints, lists and tuples of them, d deep -/
def plainD : Nat → D → Bool
  | _, .str x => PyData.strOk x
  | _, .int _ => true
  | d + 1, .tup xs => xs.length ≤ 10000 && xs.all (plainD d)
  | d + 1, .lst xs => xs.length ≤ 10000 && xs.all (plainD d)
  | _, _ => false
def sp_sameN : Nat → FSp
  | 0 => spNever
  | d + 1 => .rel (fun ds n Q => ∃ x, ds = [x, x] ∧ plainD d x = true ∧ Q (.bl true) n) (fun _ _ _ _ hq ⟨x, e, h, q⟩ => ⟨x, e, h, hq _ _ q⟩)
def sp__law_same (cl : Str → Addr) : FSp := sp_sameN 5
def sp__law_names (cl : Str → Addr) : FSp := .rel (fun ds n Q => ∃ k : Nat, ds = [.st, .int (k : Int)] ∧ n < 2 ^ 31 ∧ ∀ ys : List Str, ys.Perm NAMES → Q (.lst ((ys.take k).map .str)) (n + 16)) (fun _ _ _ _ hq ⟨k, e, h2, q⟩ => ⟨k, e, h2, fun ys p => hq _ _ (q ys p)⟩)
def sp__law_together (cl : Str → Addr) : FSp := .rel (fun ds n Q => ∃ (xs : List Str) (m : Int), ds = [.lst (xs.map .str), .int m] ∧ xs.length ≤ 100 ∧ Q (.lst (togD m xs)) n) (fun _ _ _ _ hq ⟨xs, m, e, h, q⟩ => ⟨xs, m, e, h, hq _ _ q⟩)
end DL
namespace DL
open PySem PySem.Spec PyProof.Rows L2
def m_is_list (cl : Str → Addr) : SM :=
  (sRet (eBlt dIsi (eCons (eVar 0) (eCons (eTup (eCons (eC (.raw (.ty "list"))) (eCons (eC (.raw (.ty "tuple"))) eNil))) eNil))))
abbrev N_is_list : List Str := ["thing"]
def m_is_integer (cl : Str → Addr) : SM :=
  (sRet (eAnd (eBlt dIsi (eCons (eVar 0) (eCons (eC (.raw (.ty "int"))) eNil))) (eNot (eBlt dIsi (eCons (eVar 0) (eCons (eC (.raw (.ty "bool"))) eNil))))))
abbrev N_is_integer : List Str := ["thing"]
def m_is_name (cl : Str → Addr) : SM :=
  (sSeq (sIf (tOrD (tNotD (tVal (eBlt dIsi (eCons (eVar 0) (eCons (eC (.raw (.ty "str"))) eNil))))) (tOrD (eBinT dEq (eVar 0) (eC (.str "clock"))) (tNotD (eChainT dLe dLe (eC (.int 1)) (eBlt dLen (eCons (eVar 0) eNil)) (eC (.int 8)))))) (sRet (eC (.bl false))) sNil) (sRet (eBlt dAll (eCons (eLc (eIter (eVar 0)) [1] (gNm 1) tYesD (eBin dIn (eVar 1) (eC (.str "abcdefghijklmnopqrstuvwxyz")))) eNil))))
abbrev N_is_name : List Str := ["thing", "sign"]
def m_is_among (cl : Str → Addr) : SM :=
  (sRet (eAnd (eBlt dIsi (eCons (eVar 0) (eCons (eC (.raw (.ty "str"))) eNil))) (eBin dIn (eVar 0) (eVar 1))))
abbrev N_is_among : List Str := ["thing", "names"]
def m_frozen (cl : Str → Addr) (sp : FSp) : SM :=
  (sRet (eIf (tVal (eCall 1 (sp_is_list cl) [] (eCons (eVar 0) eNil))) (eBlt dTuple (eCons (eLc (eIter (eVar 0)) [1] (gNm 1) tYesD (eCall 1 sp [] (eCons (eVar 1) eNil))) eNil)) (eVar 0)))
abbrev N_frozen : List Str := ["thing", "one"]
def m_rising (cl : Str → Addr) : SM :=
  (sSeq (sSetF 1 (eLst eNil)) (sSeq (sFor (eIter (eVar 0)) (gNm 2) (sIns 1 (eCons (eBlt dLen (eCons (eLc (eOwn 1) ([3] ++ [1]) (gNm 3) (eBinT dLe (eVar 3) (eVar 2)) (eVar 3)) eNil)) (eCons (eVar 2) eNil)))) (sRet (eVar 1))))
abbrev N_rising : List Str := ["things", "found", "thing", "one"]
def m_is_moment (cl : Str → Addr) : SM :=
  (sSeq (sIf (tNotD (tVal (eCall 1 (sp_is_list cl) [] (eCons (eVar 0) eNil)))) (sRet (eAnd (eBlt dIsi (eCons (eVar 0) (eCons (eC (.raw (.ty "str"))) eNil))) (eBin dEq (eVar 0) (eC (.str "clock"))))) sNil) (sRet (eAnd (eBin dEq (eBlt dLen (eCons (eVar 0) eNil)) (eC (.int 2))) (eAnd (eCall 2 (sp_is_among cl) [] (eCons (eBin dIdx (eVar 0) (eC (.int 0))) (eCons (eTup (eCons (eC (.str "start")) (eCons (eC (.str "done")) eNil))) eNil))) (eCall 2 (sp_is_among cl) [] (eCons (eBin dIdx (eVar 0) (eC (.int 1))) (eCons (eVar 1) eNil)))))))
abbrev N_is_moment : List Str := ["thing", "names"]
def m_is_wish (cl : Str → Addr) : SM :=
  (sSeq (sIf (tOrD (tNotD (tVal (eCall 1 (sp_is_list cl) [] (eCons (eVar 0) eNil)))) (eBinT dNe (eBlt dLen (eCons (eVar 0) eNil)) (eC (.int 3)))) (sRet (eC (.bl false))) sNil) (sRet (eAnd (eCall 2 (sp_is_moment cl) [] (eCons (eBin dIdx (eVar 0) (eC (.int 0))) (eCons (eVar 1) eNil))) (eAnd (eCall 2 (sp_is_moment cl) [] (eCons (eBin dIdx (eVar 0) (eC (.int 1))) (eCons (eVar 1) eNil))) (eCall 1 (sp_is_integer cl) [] (eCons (eBin dIdx (eVar 0) (eC (.int 2))) eNil))))))
abbrev N_is_wish : List Str := ["thing", "names"]
def m_are_bounds (cl : Str → Addr) : SM :=
  (sSeq (sIf (tOrD (tNotD (tVal (eCall 1 (sp_is_list cl) [] (eCons (eVar 0) eNil)))) (tOrD (eBinT dNe (eBlt dLen (eCons (eVar 0) eNil)) (eC (.int 2))) (tOrD (tNotD (tVal (eCall 1 (sp_is_integer cl) [] (eCons (eBin dIdx (eVar 0) (eC (.int 0))) eNil)))) (tNotD (tVal (eCall 1 (sp_is_integer cl) [] (eCons (eBin dIdx (eVar 0) (eC (.int 1))) eNil))))))) (sRet (eC (.bl false))) sNil) (sRet (eChain dLe dLe (eC (.int 1)) (eBin dIdx (eVar 0) (eC (.int 0))) (eBin dIdx (eVar 0) (eC (.int 1))))))
abbrev N_are_bounds : List Str := ["thing"]
def m_is_station (cl : Str → Addr) : SM :=
  sNever
abbrev N_is_station : List Str := ["thing", "names", "name"]
def m_checked_wishes (cl : Str → Addr) : SM :=
  (sSeq (sIf (tNotD (tVal (eCall 1 (sp_is_list cl) [] (eCons (eVar 0) eNil)))) sNever sNil) (sSeq (sFor (eEnum (eVar 0)) (gTp (gsCons (gNm 2) (gsCons (gNm 3) gsNil))) (sIf (tNotD (tVal (eCall 2 (sp_is_wish cl) [] (eCons (eVar 3) (eCons (eVar 1) eNil))))) sNever sNil)) (sRet (eBlt dTuple (eCons (eLc (eIter (eVar 0)) [3] (gNm 3) tYesD (eCall 1 (sp_frozen cl) [] (eCons (eVar 3) eNil))) eNil)))))
abbrev N_checked_wishes : List Str := ["wishes", "names", "index", "wish"]
def m_Meal___init__ (cl : Str → Addr) : SM :=
  (sSeq (sForD (fun s => (s[1]?).join) itemsD (gTp (gsCons (gNm 4) (gsCons (gNm 5) gsNil))) (sIf (tOrD (tNotD (tVal (eCall 1 (sp_is_name cl) [] (eCons (eVar 4) eNil)))) (tNotD (tVal (eCall 1 (sp_are_bounds cl) [] (eCons (eVar 5) eNil))))) sNever sNil)) (sSeq (sFldD 0 (cl "Meal") "bounds" (eDc (eIter (eCall 1 (sp_rising cl) [] (eCons (eBlt dList (eCons (eVar 1) eNil)) eNil))) [4] (gNm 4) tYesD (eVar 4) (eBlt dTuple (eCons (eBin dIdx (eVar 1) (eVar 4)) eNil)))) (sSeq (sFldD 0 (cl "Meal") "wish_row" (eCall 2 (sp_checked_wishes cl) [] (eCons (eVar 2) (eCons (eFld (cl "Meal") "bounds" (eVar 0)) eNil)))) (sSeq (sIf (tNotD (tVal (eCall 1 (sp_is_list cl) [] (eCons (eVar 3) eNil)))) sNever sNil) (sSeq (sFor (eEnum (eVar 3)) (gTp (gsCons (gNm 6) (gsCons (gNm 7) gsNil))) (sIf (tNotD (tVal (eCall 2 (sp_is_station cl) [] (eCons (eVar 7) (eCons (eFld (cl "Meal") "bounds" (eVar 0)) eNil))))) sNever sNil)) (sFldD 0 (cl "Meal") "station_row" (eBlt dTuple (eCons (eLc (eIter (eVar 3)) [7] (gNm 7) tYesD (eBlt dTuple (eCons (eVar 7) eNil))) eNil))))))))
abbrev N_Meal___init__ : List Str := ["self", "dishes", "wishes", "stations", "name", "bounds", "index", "station"]
def m_Meal_wishes (cl : Str → Addr) : SM :=
  (sRet (eBlt dList (eCons (eFld (cl "Meal") "wish_row" (eVar 0)) eNil)))
abbrev N_Meal_wishes : List Str := ["self"]
def m_together (cl : Str → Addr) : SM :=
  (sSeqF (sSetF 2 (eLst eNil)) (sSeqF (sFor (eEnum (eVar 0)) (gTp (gsCons (gNm 3) (gsCons (gNm 4) gsNil))) (sFor (eIter (eSl (eVar 0) (oSome (eBin dAdd (eVar 3) (eC (.int 1)))) oNone)) (gNm 5) (sExt 2 (eLst (eCons (eTup (eCons (eTup (eCons (eC (.str "done")) (eCons (eVar 4) eNil))) (eCons (eTup (eCons (eC (.str "done")) (eCons (eVar 5) eNil))) (eCons (eVar 1) eNil)))) (eCons (eTup (eCons (eTup (eCons (eC (.str "done")) (eCons (eVar 5) eNil))) (eCons (eTup (eCons (eC (.str "done")) (eCons (eVar 4) eNil))) (eCons (eVar 1) eNil)))) eNil)))))) (sRet (eVar 2))))
abbrev N_together : List Str := ["names", "most", "found", "at", "name", "other"]
def m_keeping (cl : Str → Addr) : SM :=
  (sRet (eLc (eIter (eVar 1)) [3] (gNm 3) tYesD (eTup (eCons (eTup (eCons (eC (.str "done")) (eCons (eVar 0) eNil))) (eCons (eTup (eCons (eC (.str "done")) (eCons (eVar 3) eNil))) (eCons (eVar 2) eNil))))))
abbrev N_keeping : List Str := ["name", "others", "most", "other"]
def m_ready_by (cl : Str → Addr) : SM :=
  (sRet (eLc (eIter (eVar 0)) [2] (gNm 2) tYesD (eTup (eCons (eC (.str "clock")) (eCons (eTup (eCons (eC (.str "done")) (eCons (eVar 2) eNil))) (eCons (eVar 1) eNil))))))
abbrev N_ready_by : List Str := ["names", "minute", "name"]
def m_behind (cl : Str → Addr) : SM :=
  (sRet (eLst (eCons (eTup (eCons (eTup (eCons (eC (.str "start")) (eCons (eVar 0) eNil))) (eCons (eTup (eCons (eC (.str "done")) (eCons (eVar 1) eNil))) (eCons (eBin dSub (eC (.int 0)) (eVar 2)) eNil)))) eNil)))
abbrev N_behind : List Str := ["name", "other", "least"]
def m__law_take (cl : Str → Addr) : SM :=
  sNever
abbrev N__law_take : List Str := ["_law_state", "_law_many", "_law_mixed", "_law_cell", "_law_digit"]
def m__law_one (cl : Str → Addr) : SM :=
  (sRet (eBin dIdx (eVar 1) (eCall 2 (sp__law_take cl) [] (eCons (eVar 0) (eCons (eBlt dLen (eCons (eVar 1) eNil)) eNil)))))
abbrev N__law_one : List Str := ["_law_state", "_law_things"]
def m__law_mix (cl : Str → Addr) : SM :=
  (sSeq (sParFF 2 3 (eBlt dList (eCons (eVar 1) eNil)) (eLst eNil)) (sSeq (sWhile (eBinT dNe (eVar 2) (eLst eNil)) (sAppPop 3 2 (eCall 2 (sp__law_take cl) [] (eCons (eVar 0) (eCons (eBlt dLen (eCons (eVar 2) eNil)) eNil))))) (sRet (eVar 3))))
abbrev N__law_mix : List Str := ["_law_state", "_law_things", "_law_left", "_law_found"]
def m__law_some (cl : Str → Addr) : SM :=
  (sRet (eLc (eIter (eVar 1)) [2] (gNm 2) (eBinT dEq (eCall 2 (sp__law_take cl) [] (eCons (eVar 0) (eCons (eC (.int 2)) eNil))) (eC (.int 0))) (eVar 2)))
abbrev N__law_some : List Str := ["_law_state", "_law_things", "_law_thing"]
def m__law_same (cl : Str → Addr) (sp : FSp) : SM :=
  (sSeq (sIf (tVal (eBlt dIsi (eCons (eVar 1) (eCons (eTup (eCons (eC (.raw (.ty "list"))) (eCons (eC (.raw (.ty "tuple"))) eNil))) eNil)))) (sSeq (sIf (tOrD (eBinT dNe (eBlt dIsi (eCons (eVar 0) (eCons (eC (.raw (.ty "list"))) eNil))) (eBlt dIsi (eCons (eVar 1) (eCons (eC (.raw (.ty "list"))) eNil)))) (eBinT dNe (eBlt dIsi (eCons (eVar 0) (eCons (eC (.raw (.ty "tuple"))) eNil))) (eBlt dIsi (eCons (eVar 1) (eCons (eC (.raw (.ty "tuple"))) eNil))))) (sRet (eC (.bl false))) sNil) (sRet (eAnd (eBin dEq (eBlt dLen (eCons (eVar 0) eNil)) (eBlt dLen (eCons (eVar 1) eNil))) (eBlt dAll (eCons (eLc (eZip (eVar 0) (eVar 1)) [2, 3] (gTp (gsCons (gNm 2) (gsCons (gNm 3) gsNil))) tYesD (eCall 2 sp [] (eCons (eVar 2) (eCons (eVar 3) eNil)))) eNil))))) sNil) (sSeq (sIf (tVal (eBlt dIsi (eCons (eVar 1) (eCons (eC (.raw (.ty "int"))) eNil)))) (sRet (eAnd (eBlt dIsi (eCons (eVar 0) (eCons (eC (.raw (.ty "int"))) eNil))) (eAnd (eBin dEq (eBlt dIsi (eCons (eVar 0) (eCons (eC (.raw (.ty "bool"))) eNil))) (eBlt dIsi (eCons (eVar 1) (eCons (eC (.raw (.ty "bool"))) eNil)))) (eBin dEq (eVar 0) (eVar 1))))) sNil) (sRet (eAnd (eBin dIs (eBlt dIsi (eCons (eVar 0) (eCons (eTup (eCons (eC (.raw (.ty "int"))) (eCons (eC (.raw (.ty "list"))) (eCons (eC (.raw (.ty "tuple"))) eNil)))) eNil))) (eC (.bl false))) (eBin dEq (eVar 0) (eVar 1))))))
abbrev N__law_same : List Str := ["_law_found", "_law_due", "_law_x", "_law_y"]
def m__law_names (cl : Str → Addr) : SM :=
  (sSeq (sSet 2 (eLst (eCons (eC (.str "a")) (eCons (eC (.str "b")) (eCons (eC (.str "rice")) (eCons (eC (.str "fish")) (eCons (eC (.str "start")) (eCons (eC (.str "done")) (eCons (eC (.str "wish")) (eCons (eC (.str "zz")) eNil)))))))))) (sRet (eSl (eCall 2 (sp__law_mix cl) [] (eCons (eVar 0) (eCons (eBin dAdd (eVar 2) (eLst (eCons (eC (.str "station")) (eCons (eC (.str "clocks")) (eCons (eC (.str "abcdefgh")) (eCons (eC (.str "meal")) (eCons (eC (.str "go")) (eCons (eC (.str "wait")) (eCons (eC (.str "cloc")) (eCons (eC (.str "on")) eNil)))))))))) eNil))) oNone (oSome (eVar 1)))))
abbrev N__law_names : List Str := ["_law_state", "_law_many", "_law_some_here"]
def m__law_together (cl : Str → Addr) : SM :=
  (sSeq (sSetF 2 (eLst eNil)) (sSeq (sFor (eRange1 (eBlt dLen (eCons (eVar 0) eNil))) (gNm 3) (sFor (eRange2 (eBin dAdd (eVar 3) (eC (.int 1))) (eBlt dLen (eCons (eVar 0) eNil))) (gNm 4) (sSeq (sApp 2 (eTup (eCons (eTup (eCons (eC (.str "done")) (eCons (eBin dIdx (eVar 0) (eVar 3)) eNil))) (eCons (eTup (eCons (eC (.str "done")) (eCons (eBin dIdx (eVar 0) (eVar 4)) eNil))) (eCons (eVar 1) eNil))))) (sApp 2 (eTup (eCons (eTup (eCons (eC (.str "done")) (eCons (eBin dIdx (eVar 0) (eVar 4)) eNil))) (eCons (eTup (eCons (eC (.str "done")) (eCons (eBin dIdx (eVar 0) (eVar 3)) eNil))) (eCons (eVar 1) eNil)))))))) (sRet (eVar 2))))
abbrev N__law_together : List Str := ["_law_names_here", "_law_most", "_law_found", "_law_k", "_law_j"]
def m_law (cl : Str → Addr) : SM :=
  (sSeq (sFor (eRange1 (eC (.int 4))) (gNm 2) (sSeq (sSet 3 (eCall 2 (sp__law_names cl) [] (eCons (eVar 1) (eCons (eBin dAdd (eC (.int 2)) (eCall 2 (sp__law_take cl) [] (eCons (eVar 1) (eCons (eC (.int 5)) eNil)))) eNil)))) (sSeq (sSet 4 (eCall 2 (sp__law_one cl) [] (eCons (eVar 1) (eCons (eLst (eCons (eC (.int 0)) (eCons (eC (.int 1)) (eCons (eC (.int 7)) (eCons (eNeg (eC (.int 3))) (eCons (eC (.int 999999999)) (eCons (eNeg (eC (.int 999999999))) (eCons (eCall 2 (sp__law_take cl) [] (eCons (eVar 1) (eCons (eC (.int 100)) eNil))) eNil)))))))) eNil)))) (sSeq (sAsg (eTup (eCons (eCall 2 (sp__law_some cl) [] (eCons (eVar 1) (eCons (eVar 3) eNil))) (eCons (eBin dIdx (eVar 3) (eC (.int 0))) eNil))) (gTp (gsCons (gNm 9) (gsCons (gNm 10) gsNil)))) (sSeq (sSetF 5 (eLc (eIter (eVar 9)) [12] (gNm 12) (eBinT dNe (eVar 12) (eVar 10)) (eVar 12))) (sSeq (sSetF 6 (eLst (eCons (eCall 2 (sp__law_together cl) [] (eCons (eVar 9) (eCons (eVar 4) eNil))) (eCons (eLc (eOwn 5) ([12] ++ [5]) (gNm 12) tYesD (eTup (eCons (eTup (eCons (eC (.str "done")) (eCons (eVar 10) eNil))) (eCons (eTup (eCons (eC (.str "done")) (eCons (eVar 12) eNil))) (eCons (eVar 4) eNil))))) eNil)))) (sSeq (sApp 6 (eLc (eIter (eVar 9)) [12] (gNm 12) tYesD (eTup (eCons (eC (.str "clock")) (eCons (eTup (eCons (eC (.str "done")) (eCons (eVar 12) eNil))) (eCons (eVar 4) eNil)))))) (sSeq (sApp 6 (eLst (eCons (eTup (eCons (eTup (eCons (eC (.str "start")) (eCons (eVar 10) eNil))) (eCons (eTup (eCons (eC (.str "done")) (eCons (eBin dIdx (eVar 3) (eC (.int 1))) eNil))) (eCons (eBin dSub (eC (.int 0)) (eVar 4)) eNil)))) eNil))) (sSeq (sFor (eRange1 (eC (.int 2))) (gNm 7) (sSeq (sPar 13 14 (eCall 2 (sp__law_one cl) [] (eCons (eVar 1) (eCons (eLst (eCons (eBlt dList (eCons (eVar 9) eNil)) (eCons (eBlt dTuple (eCons (eVar 9) eNil)) eNil))) eNil))) (eCall 2 (sp__law_one cl) [] (eCons (eVar 1) (eCons (eLst (eCons (eBlt dList (eCons (eVar 5) eNil)) (eCons (eBlt dTuple (eCons (eVar 5) eNil)) eNil))) eNil)))) (sMore 11 8 (eCall 2 (sp_together cl) [] (eCons (eVar 13) (eCons (eVar 4) eNil))) (eCall 3 (sp_keeping cl) [] (eCons (eVar 10) (eCons (eVar 14) (eCons (eVar 4) eNil)))) (eCall 2 (sp_ready_by cl) [] (eCons (eVar 13) (eCons (eVar 4) eNil))) (eCall 3 (sp_behind cl) [] (eCons (eVar 10) (eCons (eBin dIdx (eVar 3) (eC (.int 1))) (eCons (eVar 4) eNil)))) (tOrD (tNotD (tVal (eCall 2 (sp__law_same cl) [] (eCons (eVar 11) (eCons (eVar 6) eNil))))) (eBinT dNe (eBlt dList (eCons (eVar 13) eNil)) (eVar 9)))))) (sSeq (sSet 8 (eBin dAdd (eBin dAdd (eBin dAdd (eSl (eBin dIdx (eVar 6) (eC (.int 0))) oNone (oSome (eC (.int 12)))) (eBin dIdx (eVar 6) (eC (.int 1)))) (eBin dIdx (eVar 6) (eC (.int 2)))) (eBin dIdx (eVar 6) (eC (.int 3))))) (sIf (eBinT dNe (eMeth (cl "Meal") "wishes" 1 (sp_Meal_wishes cl) [] (eMake 4 (sp_Meal___init__ cl) [.tup []] (eCons (eBlt dDict (eCons (eLc (eIter (eVar 3)) [12] (gNm 12) tYesD (eTup (eCons (eVar 12) (eCons (eTup (eCons (eC (.int 1)) (eCons (eC (.int 2)) eNil))) eNil)))) eNil)) (eCons (eVar 8) eNil))) eNil) (eVar 8)) (sRet (eC (.bl false))) sNil))))))))))) (sRet (eC (.bl true))))
abbrev N_law : List Str := ["_law_script", "_law_state", "_law_turn", "_law_names_here", "_law_most", "_law_rest", "_law_due", "_law_again", "_law_wishes", "_law_row", "_law_name", "_law_found", "_law_x", "_law_given", "_law_left"]
end DL
namespace HX
open PySem L2
/-- the statements of a class -/
def inCls (st : Stmt) : List Stmt := match st with
  | .ClassDef _ _ _ b _ _ _ _ _ _ _ => b
  | _ => []
def isNil (d : Data) : Bool := match d with
  | .seq its _ => its.isEmpty
  | _ => false
/-- an empty tuple of the module's own stands at a -/
def tup0 (K : PySem.W.Frag) (a : Addr) : Bool := (K.lookup a).any fun o => decide (o.cls = .type "tuple") && isNil o.data
theorem tup0_ok {K : PySem.W.Frag} {a : Addr} (h : tup0 K a = true) : ∃ (o : Obj) (its : Array Value) (n : Nat), K.lookup a = some o ∧ o.cls = .type "tuple" ∧ o.data = .seq its n ∧ its.size ≤ sizeLine ∧ Vals [] its.toList := by
  obtain ⟨o, e, h⟩ := (Option.any_eq_true _ _).mp h
  obtain ⟨h1, h2⟩ := Bool.and_eq_true_iff.mp h
  unfold isNil at h2
  split at h2
  · next its n ed =>
    have e0 : its = #[] := Array.isEmpty_iff.mp h2
    subst e0
    exact ⟨o, #[], n, e, of_decide_eq_true h1, ed, Nat.zero_le _, .nil⟩
  · cases h2
end HX
namespace DL
open PySem PySem.Spec PyProof.Rows L2
theorem M_is_list (cl : Str → Addr) : Meets 1 N_is_list (sp_is_list cl) (m_is_list cl) := by
  intro ds n Q xq hl h
  obtain ⟨x, a, rfl, ha, q⟩ := h
  refine ⟨x, rfl, show 2 ≤ 1000 by decide, .bl (a == "list" || a == "tuple"), ?_, q⟩
  cases x <;> first | cases ha | skip
  all_goals rfl
theorem isi1 {x : D} {a T : String} (h : tyD x = some a) (hT : isB T = true) : dIsi [x, .raw (.ty T)] = some (.bl (isTy a T)) := by
  show (if isB T = true then (tyD x).map fun a => D.bl (isTy a T) else none) = _
  rw [if_pos hT, h]
  rfl
theorem M_is_integer (cl : Str → Addr) : Meets 1 N_is_integer (sp_is_integer cl) (m_is_integer cl) := by
  intro ds n Q xq hl h
  obtain ⟨x, a, rfl, ha, q⟩ := h
  refine ⟨x, rfl, _, isi1 ha (by decide), _, rfl, ?_⟩
  cases x <;> cases ha
  all_goals first
    | exact q
    | exact ⟨_, rfl, _, isi1 rfl (by decide), _, rfl, q⟩
theorem M_is_among (cl : Str → Addr) : Meets 2 N_is_among (sp_is_among cl) (m_is_among cl) := by
  intro ds n Q xq hl h
  obtain ⟨x, c, b, rfl, hb, q⟩ := h
  refine ⟨.str x, rfl, _, isi1 rfl (by decide), _, rfl, ?_⟩
  refine ⟨.str x, rfl, c, rfl, .bl b, ?_, q⟩
  unfold dIn
  rw [hb]
  rfl
theorem M_are_bounds (cl : Str → Addr) : Meets 1 N_are_bounds (sp_are_bounds cl) (m_are_bounds cl) := by
  intro ds n Q xq hl h
  obtain ⟨i, j, rfl, q⟩ := h
  refine ⟨.tup [.int i, .int j], rfl, rfl, _, _, rfl, rfl, _, rfl, ?_⟩
  refine ⟨.tup [.int i, .int j], rfl, _, rfl, false, rfl, ?_⟩
  refine ⟨.tup [.int i, .int j], rfl, .int i, rfl, rfl, _, _, rfl, rfl, _, rfl, ?_⟩
  refine ⟨.tup [.int i, .int j], rfl, .int j, rfl, rfl, _, _, rfl, rfl, _, rfl, ?_⟩
  refine ⟨.tup [.int i, .int j], rfl, .int i, rfl, _, rfl, ?_⟩
  by_cases h1 : 1 ≤ i
  · refine ifT h1 ⟨.tup [.int i, .int j], rfl, .int j, rfl, _, rfl, ?_⟩
    rw [decide_eq_true h1] at q
    exact q
  · refine ifF h1 ?_
    rw [decide_eq_false h1] at q
    exact q
theorem M_Meal_wishes (cl : Str → Addr) : Meets 1 N_Meal_wishes (sp_Meal_wishes cl) (m_Meal_wishes cl) := by
  intro ds n Q xq hl h
  obtain ⟨fs, ws, rfl, hw, q⟩ := h
  exact ⟨.obj (cl "Meal") fs, rfl, fs, .tup ws, rfl, hw, _, rfl, q⟩
theorem M_behind (cl : Str → Addr) : MeetsF 3 N_behind (sp_behind cl) (m_behind cl) := by
  intro ds n Q xq hl h
  obtain ⟨x, y, m, rfl, q⟩ := h
  exact ⟨.str x, rfl, show 2 ≤ 1000 by decide, .str y, rfl, show 2 ≤ 1000 by decide, .int m, rfl, _, rfl, show 3 ≤ 1000 by decide, show 1 ≤ 1000 by decide, q⟩
/-- a comprehension without draws, each item by a plain function -/
theorem lc_map {g : DG} {me : EM D} {xq : XQ} {s0 : Ev} {f : D → D} {n : Nat} {Q : List D → Nat → Prop} : ∀ (ds acc : List D), (∀ d ∈ ds, ∀ Q' : D → Nat → Prop, Q' (f d) n → g d s0 fun s1 => me xq s1 n Q') → Q (acc ++ ds.map f) n → sLcL g tYesD me xq s0 ds n acc Q
  | [], acc, _, q => by simpa [sLcL] using q
  | d :: ds, acc, h, q => by
    refine h d List.mem_cons_self (fun x n2 => sLcL g tYesD me xq s0 ds n2 (acc ++ [x]) Q) ?_
    refine lc_map ds (acc ++ [f d]) (fun d' hd => h d' (List.mem_cons_of_mem _ hd)) ?_
    rw [List.append_assoc]
    exact q
theorem row_iter (tp : Bool) (xs : List Str) : dIter (rowD tp xs) = some (xs.map .str) := by cases tp <;> rfl
theorem M_keeping (cl : Str → Addr) : MeetsF 3 N_keeping (sp_keeping cl) (m_keeping cl) := by
  intro ds n Q xq hl h
  obtain ⟨tp, xs, m, x, rfl, hx, q⟩ := h
  refine ⟨rowD tp xs, rfl, _, row_iter tp xs, by rw [List.length_map]; unfold LIM; omega, ?_⟩
  refine lc_map (f := fun d => .tup [mDone x, .tup [.str "done", d], .int m]) _ _ (fun d hd Q' q' => ?_) ?_
  · exact ⟨.str x, rfl, show 2 ≤ 1000 by decide, d, rfl, show 2 ≤ 1000 by decide, .int m, rfl, show 3 ≤ 1000 by decide, q'⟩
  · rw [List.nil_append, List.map_map]
    exact q
theorem M_ready_by (cl : Str → Addr) : MeetsF 2 N_ready_by (sp_ready_by cl) (m_ready_by cl) := by
  intro ds n Q xq hl h
  obtain ⟨tp, xs, m, rfl, hx, q⟩ := h
  refine ⟨rowD tp xs, rfl, _, row_iter tp xs, by rw [List.length_map]; unfold LIM; omega, ?_⟩
  refine lc_map (f := fun d => .tup [.str "clock", .tup [.str "done", d], .int m]) _ _ (fun d hd Q' q' => ?_) ?_
  · exact ⟨d, rfl, show 2 ≤ 1000 by decide, .int m, rfl, show 3 ≤ 1000 by decide, q'⟩
  · rw [List.nil_append, List.map_map]
    exact q
theorem M__law_one (cl : Str → Addr) : Meets 2 N__law_one (sp__law_one cl) (m__law_one cl) := by
  intro ds n Q xq hl h
  obtain ⟨xs, rfl, h1, h2, h3, q⟩ := h
  refine ⟨.lst xs, rfl, .st, rfl, .lst xs, rfl, _, rfl, rfl, (xs.length : Int), rfl, by omega, by omega, h3, fun r r0 r1 => ?_⟩
  obtain ⟨j, rfl⟩ : ∃ j : Nat, r = j := ⟨r.toNat, by omega⟩
  have hj : j < xs.length := by omega
  refine ⟨xs[j], ?_, q _ (List.getElem_mem hj)⟩
  show atI xs (j : Int) = _
  unfold atI ixN
  rw [if_pos (by omega), if_pos r1]
  simp [hj]
/-! plain data -/
theorem lay_all : ∀ xs : List D, (∀ x ∈ xs, (toPD x).canLay0 = true) → PyData.canLayAll0 (toPDs xs) = true
  | [], _ => by simp only [toPDs, PyData.canLayAll0]
  | x :: xs, h => by
    simp only [toPDs, PyData.canLayAll0, Bool.and_eq_true]
    exact ⟨h x List.mem_cons_self, lay_all xs fun y hy => h y (List.mem_cons_of_mem _ hy)⟩
theorem depth_all {k : Nat} : ∀ xs : List D, (∀ x ∈ xs, (toPD x).depth ≤ k) → PyData.depthAll (toPDs xs) ≤ k
  | [], _ => by simp only [toPDs, PyData.depthAll]; omega
  | x :: xs, h => by
    simp only [toPDs, PyData.depthAll]
    have h1 := h x List.mem_cons_self
    have h2 := depth_all xs fun y hy => h y (List.mem_cons_of_mem _ hy)
    omega
theorem eqv_all : ∀ xs : List D, (∀ x ∈ xs, pyEq x x = true) → PyData.eqvAll (toPDs xs) (toPDs xs) = true
  | [], _ => by simp only [toPDs, PyData.eqvAll]
  | x :: xs, h => by
    simp only [toPDs, PyData.eqvAll, Bool.and_eq_true]
    exact ⟨h x List.mem_cons_self, eqv_all xs fun y hy => h y (List.mem_cons_of_mem _ hy)⟩
theorem plain_ok : ∀ (d : Nat) (x : D), plainD d x = true → (toPD x).canLay0 = true ∧ (toPD x).depth ≤ d ∧ pyEq x x = true
  | d, .str x, h => by
    have h : PyData.strOk x = true := by cases d <;> exact h
    refine ⟨by simp only [toPD, PyData.canLay0]; exact h, by simp only [toPD, PyData.depth]; omega, ?_⟩
    unfold pyEq
    simp only [toPD, PyData.eqv, beq_self_eq_true]
  | d, .int i, h => by
    refine ⟨by simp only [toPD, PyData.canLay0], by simp only [toPD, PyData.depth]; omega, ?_⟩
    unfold pyEq
    simp only [toPD, PyData.eqv, beq_self_eq_true]
  | d + 1, .tup xs, h => by
    have h : (decide (xs.length ≤ 10000) && xs.all (plainD d)) = true := h
    have ih := fun x hx => plain_ok d x (List.all_eq_true.mp (Bool.and_eq_true_iff.mp h).2 x hx)
    refine ⟨by simp only [toPD, PyData.canLay0]; exact lay_all xs fun x hx => (ih x hx).1, ?_, ?_⟩
    · simp only [toPD, PyData.depth]
      exact Nat.succ_le_succ (depth_all xs fun x hx => (ih x hx).2.1)
    · unfold pyEq
      simp only [toPD, PyData.eqv]
      exact eqv_all xs fun x hx => (ih x hx).2.2
  | d + 1, .lst xs, h => by
    have h : (decide (xs.length ≤ 10000) && xs.all (plainD d)) = true := h
    have ih := fun x hx => plain_ok d x (List.all_eq_true.mp (Bool.and_eq_true_iff.mp h).2 x hx)
    refine ⟨by simp only [toPD, PyData.canLay0]; exact lay_all xs fun x hx => (ih x hx).1, ?_, ?_⟩
    · simp only [toPD, PyData.depth]
      exact Nat.succ_le_succ (depth_all xs fun x hx => (ih x hx).2.1)
    · unfold pyEq
      simp only [toPD, PyData.eqv]
      exact eqv_all xs fun x hx => (ih x hx).2.2
  | 0, .tup _, h => by cases h
  | 0, .lst _, h => by cases h
  | 0, .non, h => by cases h
  | 0, .bl _, h => by cases h
  | 0, .raw _, h => by cases h
  | 0, .st, h => by cases h
  | 0, .dic _, h => by cases h
  | 0, .obj _ _, h => by cases h
  | _ + 1, .non, h => by cases h
  | _ + 1, .bl _, h => by cases h
  | _ + 1, .raw _, h => by cases h
  | _ + 1, .st, h => by cases h
  | _ + 1, .dic _, h => by cases h
  | _ + 1, .obj _ _, h => by cases h
theorem plain_okD {d : Nat} {x : D} (h : plainD d x = true) (hd : d ≤ 64) : okD x = true := by
  obtain ⟨h1, h2, _⟩ := plain_ok d x h
  unfold okD SeqAt.shaped
  rw [h1, decide_eq_true (by omega)]
  rfl
theorem okD_int (i : Int) : okD (.int i) = true := plain_okD (d := 0) rfl (by decide)
theorem okD_bl (b : Bool) : okD (.bl b) = true := by
  unfold okD SeqAt.shaped
  simp only [toPD, PyData.canLay0, PyData.depth]
  rfl
theorem okD_str {x : Str} (h : PyData.strOk x = true) : okD (.str x) = true := plain_okD (d := 0) h (by decide)
theorem dEq_ok {a b : D} (ha : okD a = true) (hb : okD b = true) : dEq a b = some (.bl (pyEq a b)) := by
  unfold dEq
  rw [ha, hb]
  rfl
theorem dNe_ok {a b : D} (ha : okD a = true) (hb : okD b = true) : dNe a b = some (.bl (!pyEq a b)) := by
  unfold dNe
  rw [ha, hb]
  rfl
theorem plain_strs {xs : List Str} (hl : xs.length ≤ 10000) (h : ∀ x ∈ xs, PyData.strOk x = true) : plainD 1 (.lst (xs.map .str)) = true := by
  show (decide ((xs.map D.str).length ≤ 10000) && (xs.map D.str).all (plainD 0)) = true
  rw [Bool.and_eq_true, List.length_map, decide_eq_true_eq, List.all_eq_true]
  refine ⟨hl, fun d hd => ?_⟩
  obtain ⟨x, hx, rfl⟩ := List.mem_map.mp hd
  exact h x hx
theorem names_ok : ∀ x ∈ NAMES, PyData.strOk x = true := by decide +kernel
theorem M__law_some (cl : Str → Addr) : Meets 2 N__law_some (sp__law_some cl) (m__law_some cl) := by
  intro ds n Q xq hl h
  obtain ⟨xs, rfl, h1, h2, q⟩ := h
  refine ⟨.lst (xs.map .str), rfl, _, rfl, by rw [List.length_map]; unfold LIM; omega, ?_⟩
  have key : ∀ (L : Option D) (xs : List Str) (n : Nat) (acc : List Str), n + xs.length < 2 ^ 32 → (∀ ys : List Str, ys.Sublist xs → Q (.lst ((acc ++ ys).map .str)) (n + xs.length)) →
      sLcL (gNm 2) (eBinT dEq (eCall 2 (sp__law_take cl) [] (eCons (eVar 0) (eCons (eC (.int 2)) eNil))) (eC (.int 0))) (eVar 2) (fun _ _ => False) [some .st, L, none] (xs.map .str) n (acc.map .str) (fun xs n2 => Q (.lst xs) n2) := by
    intro L xs
    induction xs with
    | nil =>
      intro n acc hn q
      have := q [] (List.Sublist.refl _)
      rw [List.append_nil] at this
      exact this
    | cons x xs ih =>
      intro n acc hn q
      rw [List.length_cons] at hn
      refine ⟨.st, rfl, rfl, 2, rfl, by decide, by decide, by omega, fun r r0 r1 => ⟨_, dEq_ok (okD_int r) (okD_int 0), ?_⟩⟩
      have e : n + (x :: xs).length = n + 1 + xs.length := by rw [List.length_cons]; omega
      cases pyEq (.int r) (.int 0) with
      | true =>
        refine ⟨.str x, rfl, ?_⟩
        have := ih (n + 1) (acc ++ [x]) (by omega) (fun ys hy => by
          have := q (x :: ys) (hy.cons₂ x)
          rw [e] at this
          rw [List.append_assoc]
          exact this)
        rw [List.map_append] at this
        exact this
      | false =>
        exact ih (n + 1) acc (by omega) (fun ys hy => by
          have := q ys (hy.cons x)
          rw [e] at this
          exact this)
  exact key _ xs n [] (by omega) q


end DL
namespace DL
open PySem PySem.Spec PyProof.Rows L2
theorem pyEq_nil (xs : List Str) : pyEq (.lst (xs.map .str)) (.lst []) = xs.isEmpty := by
  cases xs with
  | nil => rfl
  | cons x xs => rfl
theorem erase_map (f : Str → D) : ∀ (k : Nat) (xs : List Str), (xs.map f).eraseIdx k = (xs.eraseIdx k).map f
  | _, [] => rfl
  | 0, x :: xs => rfl
  | k + 1, x :: xs => by
    show f x :: (xs.map f).eraseIdx k = f x :: (xs.eraseIdx k).map f
    rw [erase_map f k xs]
theorem erase_perm : ∀ (j : Nat) (l : List Str) (h : j < l.length), (l[j] :: l.eraseIdx j).Perm l
  | _, [], h => by simp at h
  | 0, x :: xs, h => List.Perm.refl _
  | j + 1, x :: xs, h => by
    have h' : j < xs.length := by simpa using h
    show (xs[j] :: x :: xs.eraseIdx j).Perm (x :: xs)
    exact (List.Perm.swap x xs[j] _).trans (List.Perm.cons x (erase_perm j xs h'))
theorem erase_len : ∀ (j : Nat) (l : List Str), j < l.length → (l.eraseIdx j).length + 1 = l.length
  | _, [], h => by simp at h
  | 0, x :: xs, h => rfl
  | j + 1, x :: xs, h => by
    have h' : j < xs.length := by simpa using h
    show (xs.eraseIdx j).length + 1 + 1 = xs.length + 1
    rw [erase_len j xs h']
theorem cut_to (xs : List D) (k : Nat) : cutL xs none (some (k : Int)) = xs.take k := by
  unfold cutL
  rw [HT.sIx_none, HT.sIx_nat, List.drop_zero, Nat.sub_zero]
  rcases Nat.le_total k xs.length with h | h
  · rw [Nat.min_eq_left h]
  · rw [Nat.min_eq_right h, List.take_length, List.take_of_length_le h]
theorem cut_from (xs : List D) (k : Nat) : cutL xs (some (k : Int)) none = xs.drop k := by
  unfold cutL
  rw [HT.sIx_none, HT.sIx_nat]
  rcases Nat.le_total k xs.length with h | h
  · rw [Nat.min_eq_left h, List.take_of_length_le]
    rw [List.length_drop]
    exact Nat.le_refl _
  · rw [Nat.min_eq_right h, Nat.sub_self, List.take_zero, List.drop_eq_nil_of_le h]
theorem M__law_mix (cl : Str → Addr) : Meets 2 N__law_mix (sp__law_mix cl) (m__law_mix cl) := by
  intro ds n Q xq hl h
  obtain ⟨xs, rfl, h1, hok, h2, q⟩ := h
  refine ⟨show 2 < 4 by decide, show 3 < 4 by decide, .lst (xs.map .str), rfl, _, rfl, show 0 ≤ 1000 by decide, xs.length + 1, ?_⟩
  have key : ∀ (k : Nat) (left found : List Str) (n : Nat), left.length = k → (found ++ left).Perm xs → n + k < 2 ^ 32 → (∀ ys : List Str, ys.Perm xs → Q (.lst (ys.map .str)) (n + k)) →
      sWhileN (eBinT dNe (eVar 2) (eLst eNil)) (sAppPop 3 2 (eCall 2 (sp__law_take cl) [] (eCons (eVar 0) (eCons (eBlt dLen (eCons (eVar 2) eNil)) eNil)))) xq { nx := fun s' n' => sRet (eVar 3) xq { nx := fun _ n' => Q .non n', rt := Q } s' n', rt := Q } (k + 1)
        [some .st, some (.lst (xs.map .str)), some (.lst (left.map .str)), some (.lst (found.map .str))] n := by
    intro k
    induction k with
    | zero =>
      intro left found n hk hp hn q
      have e : left = [] := List.eq_nil_of_length_eq_zero hk
      subst e
      rw [List.append_nil] at hp
      exact ⟨.lst [], rfl, show 0 ≤ 1000 by decide, false, rfl, .lst (found.map .str), rfl, q found hp⟩
    | succ k ih =>
      intro left found n hk hp hn q
      have hlen : found.length + left.length = xs.length := by rw [← List.length_append]; exact hp.length_eq
      have hle : ∀ x ∈ left, PyData.strOk x = true := fun x hx => hok x (hp.subset (List.mem_append_right _ hx))
      have ht : dNe (.lst (left.map .str)) (.lst []) = some (.bl true) := by
        rw [dNe_ok (plain_okD (plain_strs (by omega) hle) (by decide)) rfl, pyEq_nil]
        cases left with
        | nil => cases hk
        | cons x l => rfl
      refine ⟨.lst (left.map .str), rfl, show 0 ≤ 1000 by decide, true, ht, found.map .str, left.map .str, rfl, rfl, ?_⟩
      have e1 : ((left.map D.str).length : Int) = (k + 1 : Nat) := by rw [List.length_map, hk]
      refine ⟨.st, rfl, .lst (left.map .str), rfl, _, rfl, rfl, ((left.map D.str).length : Int), rfl, by rw [e1]; omega, by rw [e1]; omega, by omega, fun r r0 r1 => ?_⟩
      obtain ⟨j, rfl⟩ : ∃ j : Nat, r = j := ⟨r.toNat, by omega⟩
      have hj : j < left.length := by rw [e1] at r1; omega
      refine ⟨j, .str left[j], rfl, by simp [hj], by rw [List.length_map]; unfold LIM; omega, by rw [List.length_map]; unfold LIM; omega, ?_⟩
      have e2 : (left.map D.str).eraseIdx j = (left.eraseIdx j).map .str := erase_map _ _ _
      have e3 : found.map D.str ++ [.str left[j]] = (found ++ [left[j]]).map .str := by rw [List.map_append]; rfl
      rw [e2, e3]
      have hp2 : (found ++ [left[j]] ++ left.eraseIdx j).Perm xs := by
        refine List.Perm.trans ?_ hp
        rw [List.append_assoc]
        exact List.Perm.append_left _ (erase_perm j left hj)
      refine ih (left.eraseIdx j) (found ++ [left[j]]) (n + 1) (by have := erase_len j left hj; omega) hp2 (by omega) (fun ys hy => ?_)
      have := q ys hy
      rw [show n + (k + 1) = n + 1 + k by omega] at this
      exact this
  exact key xs.length xs [] n rfl (List.Perm.refl _) (by omega) q
theorem M__law_names (cl : Str → Addr) : Meets 2 N__law_names (sp__law_names cl) (m__law_names cl) := by
  intro ds n Q xq hl h
  obtain ⟨k, rfl, h2, q⟩ := h
  refine ⟨show 8 ≤ 1000 by decide, ?_⟩
  refine ⟨.st, rfl, .lst ((NAMES.take 8).map D.str), rfl, show 8 ≤ 1000 by decide, _, rfl, rfl, NAMES, rfl, by decide, names_ok, h2, fun ys p => ?_⟩
  refine ⟨.int k, rfl, k, rfl, _, rfl, ?_⟩
  have e : cutL (ys.map D.str) none (some (k : Int)) = (ys.take k).map .str := by
    rw [cut_to, List.map_take]
  rw [e]
  exact q ys p
end DL
namespace DL
open PySem PySem.Spec PyProof.Rows L2
theorem iteB {c : Bool} {A B : Prop} (a : A) (b : B) : if c = true then A else B := by cases c <;> assumption
theorem ok_clock : okD (.str "clock") = true := okD_str (by decide +kernel)
theorem M_rising (cl : Str → Addr) : Meets 1 N_rising (sp_rising cl) (m_rising cl) := by
  intro ds n Q xq hl h
  obtain ⟨xs, rfl, h1, q⟩ := h
  refine ⟨show 1 < 4 by decide, show 0 ≤ 1000 by decide, .lst (xs.map .str), rfl, xs.map .str, rfl, ?_⟩
  have flt : ∀ (L x : D) (b : Str) (ds acc : List Str) (Q : List D → Nat → Prop), x = .str b → (∀ zs : List D, zs.length ≤ acc.length + ds.length → Q zs n) →
      sLcL (gNm 3) (eBinT dLe (eVar 3) (eVar 2)) (eVar 3) (fun _ _ => False) [some L, none, some x, none] (ds.map .str) n (acc.map .str) Q := by
    intro L x b ds
    induction ds with
    | nil => intro acc Q hx q; exact q _ (by rw [List.length_map]; exact Nat.le_refl _)
    | cons a ds ih =>
      intro acc Q hx q
      subst hx
      rw [List.length_cons] at q
      refine ⟨.str a, rfl, .str b, rfl, _, rfl, ?_⟩
      refine iteB ⟨.str a, rfl, ?_⟩ (ih acc Q rfl (fun zs hz => q zs (by omega)))
      have := ih (acc ++ [a]) Q rfl (fun zs hz => q zs (by rw [List.length_append] at hz; simp at hz; omega))
      rw [List.map_append] at this
      exact this
  have key : ∀ (rest found : List Str) (x2 : Option D), found.length + rest.length ≤ 1000 → (∀ ys : List Str, ys.Perm (found ++ rest) → Q (.lst (ys.map .str)) n) →
      sForL (gNm 2) (sIns 1 (eCons (eBlt dLen (eCons (eLc (eOwn 1) ([3] ++ [1]) (gNm 3) (eBinT dLe (eVar 3) (eVar 2)) (eVar 3)) eNil)) (eCons (eVar 2) eNil))) xq { nx := fun s' n' => sRet (eVar 1) xq { nx := fun _ n' => Q .non n', rt := Q } s' n', rt := Q }
        (rest.map .str) [some (.lst (xs.map .str)), some (.lst (found.map .str)), x2, none] n := by
    intro rest
    induction rest with
    | nil =>
      intro found x2 hl q
      rw [List.append_nil] at q
      exact ⟨.lst (found.map .str), rfl, q found (List.Perm.refl _)⟩
    | cons x rest ih =>
      intro found x2 hl q
      rw [List.length_cons] at hl
      refine ⟨found.map .str, rfl, found.map .str, rfl, by rw [List.length_map]; unfold LIM; omega, ?_⟩
      refine flt _ _ x found [] _ rfl (fun zs hz => ?_)
      have hz : zs.length ≤ found.length := by simpa using hz
      refine ⟨.int zs.length, rfl, .str x, rfl, zs.length, .str x, rfl, by rw [List.length_map]; unfold LIM; omega, by unfold LIM; omega, ?_⟩
      have e : (found.map D.str).take zs.length ++ [.str x] ++ (found.map D.str).drop zs.length = (found.take zs.length ++ [x] ++ found.drop zs.length).map .str := by
        rw [List.map_append, List.map_append, List.map_take, List.map_drop]
        rfl
      rw [e]
      have hp : (found.take zs.length ++ [x] ++ found.drop zs.length).Perm (found ++ [x]) := by
        rw [List.append_assoc]
        have h1 : (found.take zs.length ++ ([x] ++ found.drop zs.length)).Perm (found.take zs.length ++ (found.drop zs.length ++ [x])) := List.Perm.append_left _ List.perm_append_comm
        refine h1.trans ?_
        rw [← List.append_assoc, List.take_append_drop]
      refine ih (found.take zs.length ++ [x] ++ found.drop zs.length) _ (by have := hp.length_eq; rw [this, List.length_append]; simp; omega) (fun ys hy => q ys ?_)
      refine hy.trans ((List.Perm.append_right rest hp).trans ?_)
      rw [List.append_assoc]
      exact List.Perm.refl _
  exact key xs [] none (by simpa using h1) q
def LETTERS' : Str := "abcdefghijklmnopqrstuvwxyz"
def nameOk (x : Str) : Bool := PyData.strOk x && (!(x == "clock") && (decide (1 ≤ x.length) && (decide (x.length ≤ 8) && x.cps.toList.all fun c => decide (c ∈ LETTERS'.cps.toList))))
theorem names_good : ∀ x ∈ NAMES, nameOk x = true := by decide +kernel
theorem bools_true {α : Type} (xs : List α) : boolsD (xs.map fun _ => D.bl true) = some (xs.map fun _ => true) := by
  induction xs with
  | nil => rfl
  | cons x xs ih =>
    show (boolsD (xs.map fun _ => D.bl true)).map (true :: ·) = _
    rw [ih]
    rfl
theorem all_true {α : Type} (xs : List α) : dAll [.lst (xs.map fun _ => D.bl true)] = some (.bl true) := by
  show (boolsD (xs.map fun _ => D.bl true)).map (fun bs => D.bl (bs.all id)) = _
  rw [bools_true]
  have : (xs.map fun _ => true).all id = true := List.all_eq_true.mpr fun b hb => by
    obtain ⟨_, _, e⟩ := List.mem_map.mp hb
    rw [← e]
    rfl
  rw [Option.map_some, this]
theorem M_is_name (cl : Str → Addr) : Meets 1 N_is_name (sp_is_name cl) (m_is_name cl) := by
  intro ds n Q xq hl h
  obtain ⟨x, rfl, hx, q⟩ := h
  have hg := names_good x hx
  unfold nameOk at hg
  simp only [Bool.and_eq_true, decide_eq_true_eq, Bool.not_eq_true', List.all_eq_true] at hg
  obtain ⟨g1, g2, g3, g4, g5⟩ := hg
  have hlen : dLen [.str x] = some (.int x.length) := if_pos (by unfold LIM; omega)
  refine ⟨.str x, rfl, _, isi1 rfl (by decide), _, rfl, ?_⟩
  refine ⟨.str x, rfl, _, dEq_ok (okD_str g1) ok_clock, ?_⟩
  have e : pyEq (.str x) (.str "clock") = false := g2
  rw [e]
  refine ⟨.str x, rfl, _, hlen, _, rfl, ?_⟩
  have e8 : dLe (.int x.length) (.int 8) = some (.bl true) := by
    show some (D.bl (decide ((x.length : Int) ≤ 8))) = _
    exact congrArg (fun b => some (D.bl b)) (decide_eq_true (by omega))
  refine ifT (by omega) ⟨true, e8, ?_⟩
  refine ⟨.str x, rfl, signs x, rfl, ?_, ?_⟩
  · have : (signs x).length = x.length := by unfold signs; rw [List.length_map]; rfl
    unfold LIM
    omega
  · refine lc_map (f := fun _ => .bl true) _ _ (fun d hd Q' q' => ?_) ?_
    · obtain ⟨c, hc, rfl⟩ := List.mem_map.mp hd
      refine ⟨.str ⟨#[c]⟩, rfl, .bl true, ?_, q'⟩
      have := g5 c hc
      show some (D.bl (decide (c ∈ LETTERS'.cps.toList))) = _
      rw [decide_eq_true this]
    · exact ⟨.bl true, all_true _, q⟩
theorem mem_look {ks : List Str} {kvs : List (Key × D)} (h : KeysAre ks kvs) {x : Str} (hx : x ∈ ks) : (lookK kvs (.inr x)).isSome = true := by
  unfold KeysAre at h
  have h1 : (Sum.inr x : Key) ∈ kvs.map (·.1) := by rw [h]; exact List.mem_map_of_mem hx
  obtain ⟨kv, h2, h3⟩ := List.mem_map.mp h1
  unfold lookK
  rw [Option.isSome_map, List.find?_isSome]
  exact ⟨kv, h2, by rw [decide_eq_true_eq]; exact h3⟩
theorem in_dic {ks : List Str} {kvs : List (Key × D)} (h : KeysAre ks kvs) {x : Str} (hx : x ∈ ks) : dInB (.str x) (.dic kvs) = some true := by
  show (keyD (.str x)).map (fun k => (lookK kvs k).isSome) = _
  show some ((lookK kvs (.inr x)).isSome) = _
  rw [mem_look h hx]
theorem M_is_moment (cl : Str → Addr) : Meets 2 N_is_moment (sp_is_moment cl) (m_is_moment cl) := by
  intro ds n Q xq hl h
  obtain ⟨ks, kvs, x, rfl, hk, hg, q⟩ := h
  rcases hg with rfl | ⟨x, hx, hd⟩
  · refine ⟨.str "clock", rfl, rfl, .str "clock", _, rfl, rfl, _, rfl, ?_⟩
    exact ⟨.str "clock", rfl, _, isi1 rfl (by decide), _, rfl, .str "clock", rfl, _, dEq_ok ok_clock ok_clock, q⟩
  · have key : ∀ w : Str, dInB (.str w) (.tup [.str "start", .str "done"]) = some true → m_is_moment cl xq { nx := fun _ n' => Q .non n', rt := Q } (startD N_is_moment [.tup [.str w, .str x], .dic kvs]) n := by
      intro w hw
      refine ⟨.tup [.str w, .str x], rfl, rfl, _, _, rfl, rfl, _, rfl, ?_⟩
      refine ⟨.tup [.str w, .str x], rfl, _, rfl, _, rfl, _, rfl, ?_⟩
      refine ⟨.tup [.str w, .str x], rfl, .str w, rfl, show 2 ≤ 1000 by decide, rfl, w, _, true, rfl, hw, _, rfl, ?_⟩
      exact ⟨.tup [.str w, .str x], rfl, .str x, rfl, .dic kvs, rfl, rfl, x, _, true, rfl, in_dic hk hx, q⟩
    rcases hd with rfl | rfl
    · exact key "done" rfl
    · exact key "start" rfl
theorem M_is_wish (cl : Str → Addr) : Meets 2 N_is_wish (sp_is_wish cl) (m_is_wish cl) := by
  intro ds n Q xq hl h
  obtain ⟨ks, kvs, x, rfl, hk, ⟨a, b, i, rfl, ga, gb⟩, q⟩ := h
  refine ⟨.tup [a, b, .int i], rfl, rfl, _, _, rfl, rfl, _, rfl, ?_⟩
  refine ⟨.tup [a, b, .int i], rfl, _, rfl, false, rfl, ?_⟩
  refine ⟨.tup [a, b, .int i], rfl, a, rfl, .dic kvs, rfl, rfl, ks, kvs, a, rfl, hk, ga, _, rfl, ?_⟩
  refine ⟨.tup [a, b, .int i], rfl, b, rfl, .dic kvs, rfl, rfl, ks, kvs, b, rfl, hk, gb, _, rfl, ?_⟩
  exact ⟨.tup [a, b, .int i], rfl, .int i, rfl, rfl, .int i, _, rfl, rfl, q⟩
theorem map_id' (xs : List D) : (xs.map fun d => d) = xs := by simp
theorem M_frozen (cl : Str → Addr) (d : Nat) : Meets 1 N_frozen (sp_frozenN (d + 1)) (m_frozen cl (sp_frozenN d)) := by
  intro ds n Q xq hl h
  obtain ⟨x, rfl, hx, q⟩ := h
  cases x with
  | str x => exact ⟨.str x, rfl, rfl, .str x, _, rfl, rfl, _, rfl, .str x, rfl, q⟩
  | int x => exact ⟨.int x, rfl, rfl, .int x, _, rfl, rfl, _, rfl, .int x, rfl, q⟩
  | tup xs =>
    cases d with
    | zero => cases hx
    | succ d =>
      have hx : (decide (xs.length ≤ 1000) && xs.all (tupsD d)) = true := hx
      obtain ⟨h1, h2⟩ := Bool.and_eq_true_iff.mp hx
      have h1 := of_decide_eq_true h1
      refine ⟨.tup xs, rfl, rfl, .tup xs, _, rfl, rfl, _, rfl, .tup xs, rfl, xs, rfl, by unfold LIM; omega, ?_⟩
      refine lc_map (f := fun d => d) _ _ (fun d' hd Q' q' => ⟨d', rfl, rfl, d', rfl, List.all_eq_true.mp h2 d' hd, q'⟩) ?_
      rw [map_id']
      exact ⟨.tup xs, rfl, q⟩
  | _ => cases d <;> cases hx
end DL
namespace DL
open PySem PySem.Spec PyProof.Rows L2
theorem good_tups {ks : List Str} {w : D} (h : GoodW ks w) : tupsD 2 w = true := by
  obtain ⟨a, b, i, rfl, ha, hb⟩ := h
  have key : ∀ {a : D}, GoodM ks a → tupsD 1 a = true := fun {a} ha => by
    rcases ha with rfl | ⟨x, _, rfl | rfl⟩ <;> rfl
  show (decide (3 ≤ 1000) && (tupsD 1 a && (tupsD 1 b && (tupsD 1 (.int i) && true)))) = true
  rw [key ha, key hb]
  rfl
theorem M_checked_wishes (cl : Str → Addr) : Meets 2 N_checked_wishes (sp_checked_wishes cl) (m_checked_wishes cl) := by
  intro ds n Q xq hl h
  obtain ⟨ks, kvs, ws, rfl, hk, hlen, hw, q⟩ := h
  refine ⟨.lst ws, rfl, rfl, .lst ws, _, rfl, rfl, _, rfl, ?_⟩
  refine ⟨.lst ws, rfl, ws, rfl, ?_⟩
  have key : ∀ (rest : List D) (k : Nat) (x2 x3 : Option D) (de : DE), (∀ w ∈ rest, GoodW ks w) → (∀ x2 x3, de.nx [some (.lst ws), some (.dic kvs), x2, x3] n) →
      sForL (gTp (gsCons (gNm 2) (gsCons (gNm 3) gsNil))) (sIf (tNotD (tVal (eCall 2 (sp_is_wish cl) [] (eCons (eVar 3) (eCons (eVar 1) eNil))))) sNever sNil) xq de (pairsD k rest) [some (.lst ws), some (.dic kvs), x2, x3] n := by
    intro rest
    induction rest with
    | nil => intro k x2 x3 de _ q; exact q _ _
    | cons w rest ih =>
      intro k x2 x3 de hw q
      refine ⟨_, rfl, .int k, [w], rfl, w, [], rfl, rfl, ?_⟩
      refine ⟨w, rfl, .dic kvs, rfl, rfl, ks, kvs, w, rfl, hk, hw w List.mem_cons_self, _, rfl, ?_⟩
      exact ih (k + 1) _ _ de (fun w' h' => hw w' (List.mem_cons_of_mem _ h')) q
  refine key ws 0 none none _ hw (fun x2 x3 => ?_)
  refine ⟨.lst ws, rfl, ws, rfl, by unfold LIM; omega, ?_⟩
  refine lc_map (f := fun d => d) _ _ (fun d' hd Q' q' => ⟨d', rfl, rfl, d', rfl, good_tups (hw d' hd), q'⟩) ?_
  rw [map_id']
  exact ⟨.tup ws, rfl, q⟩
theorem good_perm {ks ys : List Str} (h : ∀ x ∈ ks, x ∈ ys) {w : D} (hw : GoodW ks w) : GoodW ys w := by
  obtain ⟨a, b, i, e, ha, hb⟩ := hw
  have key : ∀ {a : D}, GoodM ks a → GoodM ys a := fun ha => ha.elim .inl fun ⟨x, hx, hd⟩ => .inr ⟨x, h x hx, hd⟩
  exact ⟨a, b, i, e, key ha, key hb⟩
def b12 : D := .tup [.int 1, .int 2]
theorem look_map {ks : List Str} {x : Str} (hx : x ∈ ks) : lookK (ks.map fun x => ((.inr x : Key), b12)) (.inr x) = some b12 := by
  induction ks with
  | nil => cases hx
  | cons k ks ih =>
    unfold lookK
    rw [List.map_cons, List.find?_cons]
    by_cases h : k = x
    · rw [decide_eq_true (by rw [h])]
      rfl
    · rw [decide_eq_false (by intro z; cases z; exact h rfl)]
      exact ih ((List.mem_cons.mp hx).resolve_left fun z => h z.symm)
theorem put_new {ks : List Str} {x : Str} (hx : x ∉ ks) : putD (ks.map fun x => ((.inr x : Key), b12)) (.inr x) b12 = (ks ++ [x]).map fun x => ((.inr x : Key), b12) := by
  have hn : lookK (ks.map fun x => ((.inr x : Key), b12)) (.inr x) = none := by
    unfold lookK
    rw [Option.map_eq_none_iff, List.find?_eq_none]
    intro kv hkv e
    obtain ⟨y, hy, rfl⟩ := List.mem_map.mp hkv
    have e : (Sum.inr y : Key) = Sum.inr x := of_decide_eq_true e
    cases e
    exact hx hy
  unfold putD
  rw [hn, if_neg (by decide), List.concat_eq_append, List.map_append]
  rfl
theorem M_Meal___init__ (cl : Str → Addr) : MeetsI (cl "Meal") 4 N_Meal___init__ (sp_Meal___init__ cl) (m_Meal___init__ cl) := by
  intro ds n Q xq hl h
  obtain ⟨ks, ws, rfl, h0, hnd, hn, hlen, hw, q⟩ := h
  refine ⟨_, rfl, ?_⟩
  -- the dishes
  have loop : ∀ (rest : List Str) (o d : Option D) (w : Option D) (t : Option D) (x4 x5 x6 x7 : Option D) (de : DE), (∀ x ∈ rest, x ∈ NAMES) → (∀ x4 x5, de.nx [o, d, w, t, x4, x5, x6, x7] n) →
      sForL (gTp (gsCons (gNm 4) (gsCons (gNm 5) gsNil))) (sIf (tOrD (tNotD (tVal (eCall 1 (sp_is_name cl) [] (eCons (eVar 4) eNil)))) (tNotD (tVal (eCall 1 (sp_are_bounds cl) [] (eCons (eVar 5) eNil))))) sNever sNil) (fun _ _ => False) de (itemsD (rest.map fun x => ((.inr x : Key), b12))) [o, d, w, t, x4, x5, x6, x7] n := by
    intro rest
    induction rest with
    | nil => intro o d w t x4 x5 x6 x7 de _ q; exact q _ _
    | cons x rest ih =>
      intro o d w t x4 x5 x6 x7 de hx q
      refine ⟨_, rfl, .str x, [b12], rfl, b12, [], rfl, rfl, ?_⟩
      refine ⟨.str x, rfl, rfl, x, rfl, hx x List.mem_cons_self, _, rfl, ?_⟩
      refine ⟨b12, rfl, rfl, 1, 2, rfl, _, rfl, ?_⟩
      exact ih o d w t _ _ x6 x7 de (fun y hy => hx y (List.mem_cons_of_mem _ hy)) q
  refine loop ks _ _ _ _ none none none none _ hn (fun x4 x5 => ?_)
  -- the bounds
  have ekeys : ((ks.map fun x => ((.inr x : Key), b12)).map (·.1)).map kD = ks.map .str := by
    simp only [List.map_map]
    rfl
  refine ⟨.dic (ks.map fun x => (.inr x, b12)), rfl, .lst (ks.map .str), congrArg (fun z => some (D.lst z)) ekeys, rfl, ks, rfl, by omega, fun ys hp => ?_⟩
  refine ⟨ys.map .str, rfl, by rw [List.length_map, hp.length_eq]; unfold LIM; omega, ?_⟩
  have ynd : ys.Nodup := hp.nodup_iff.mpr hnd
  have dcl : ∀ (s0 : Ev) (rest done : List Str) (Q : List (Key × D) → Nat → Prop), s0[1]? = some (some (.dic (ks.map fun x => (.inr x, b12)))) → 4 < s0.length → (∀ y ∈ rest, y ∈ ks) → (done ++ rest).Nodup → Q ((done ++ rest).map fun x => (.inr x, b12)) n →
      sDcL (gNm 4) tYesD (eVar 4) (eBlt dTuple (eCons (eBin dIdx (eVar 1) (eVar 4)) eNil)) (fun _ _ => False) s0 (rest.map .str) n (done.map fun x => (.inr x, b12)) Q := by
    intro s0 rest
    induction rest with
    | nil => intro done Q _ _ _ _ q; rw [List.append_nil] at q; exact q
    | cons y rest ih =>
      intro done Q e1 e4 hy hnd q
      have g4 : (s0.set 4 (some (D.str y)))[4]? = some (some (.str y)) := List.getElem?_set_self e4
      have g1 : (s0.set 4 (some (D.str y)))[1]? = some (some (.dic (ks.map fun x => (.inr x, b12)))) := by rw [set_other (by decide)]; exact e1
      refine ⟨.str y, g4, .dic _, g1, .str y, g4, b12, look_map (hy y List.mem_cons_self), b12, rfl, .inr y, rfl, ?_⟩
      have hny : y ∉ done := fun z => by
        rw [List.nodup_append] at hnd
        exact hnd.2.2 y z y List.mem_cons_self rfl
      rw [put_new hny]
      refine ih (done ++ [y]) Q e1 e4 (fun y' h' => hy y' (List.mem_cons_of_mem _ h')) ?_ ?_
      · rw [List.append_assoc]; exact hnd
      · rw [List.append_assoc]; exact q
  refine dcl _ ys [] _ rfl (show 4 < 8 by decide) (fun y hy => hp.subset hy) ynd ?_
  refine ⟨[], rfl, by decide, ?_⟩
  -- the wishes
  have kd : KeysAre ys (ys.map fun x => ((.inr x : Key), b12)) := by
    unfold KeysAre
    rw [List.map_map]
    rfl
  refine ⟨.lst ws, rfl, .obj (cl "Meal") [("bounds", .dic (ys.map fun x => (.inr x, b12)))], rfl, _, .dic (ys.map fun x => (.inr x, b12)), rfl, rfl, rfl, ys, _, ws, rfl, kd, hlen, fun w h' => good_perm (fun x hx => hp.symm.subset hx) (hw w h'), ?_⟩
  refine ⟨_, rfl, show 1 < 1000 by decide, ?_⟩
  refine ⟨.tup [], rfl, rfl, .tup [], _, rfl, rfl, _, rfl, ?_⟩
  refine ⟨.tup [], rfl, [], rfl, ?_⟩
  refine ⟨.tup [], rfl, [], rfl, by decide, .tup [], rfl, ?_⟩
  refine ⟨_, rfl, show 2 < 1000 by decide, ?_⟩
  exact ⟨_, rfl, q _ rfl rfl⟩
end DL
namespace DL
open PySem PySem.Spec PyProof.Rows L2
theorem flat_len (m : Int) (x : Str) : ∀ xs : List Str, (xs.flatMap fun y => [tgD m x y, tgD m y x]).length = 2 * xs.length
  | [] => rfl
  | y :: ys => by
    rw [List.flatMap_cons, List.length_append, flat_len m x ys, List.length_cons]
    simp
    omega
theorem tog_len (m : Int) : ∀ xs : List Str, (togD m xs).length ≤ 2 * (xs.length * xs.length)
  | [] => Nat.zero_le _
  | x :: xs => by
    have ih := tog_len m xs
    show ((xs.flatMap fun y => [tgD m x y, tgD m y x]) ++ togD m xs).length ≤ _
    rw [List.length_append, List.length_cons, flat_len]
    have : (xs.length + 1) * (xs.length + 1) = xs.length * xs.length + 2 * xs.length + 1 := by
      rw [Nat.add_mul, Nat.mul_add]
      omega
    omega
theorem tog_lim {m : Int} {xs : List Str} (h : xs.length ≤ 100) : (togD m xs).length ≤ LIM := by
  have h1 := tog_len m xs
  have h2 : xs.length * xs.length ≤ 100 * 100 := Nat.mul_le_mul h h
  unfold LIM
  omega
theorem row_seq (tp : Bool) (xs : List Str) : dSeq (rowD tp xs) = some (xs.map .str) := by cases tp <;> rfl
theorem row_from (tp : Bool) (xs : List Str) (k : Nat) : dSl (rowD tp xs) (some (k : Int)) none = some (rowD tp (xs.drop k)) := by
  cases tp
  · show some (D.lst (cutL (xs.map D.str) (some (k : Int)) none)) = some (D.lst ((xs.drop k).map .str))
    rw [cut_from, List.map_drop]
  · show some (D.tup (cutL (xs.map D.str) (some (k : Int)) none)) = some (D.tup ((xs.drop k).map .str))
    rw [cut_from, List.map_drop]
theorem M_together (cl : Str → Addr) : MeetsF 2 N_together (sp_together cl) (m_together cl) := by
  intro ds n Q xq hl h
  obtain ⟨tp, xs, m, rfl, hx, q⟩ := h
  refine ⟨show 2 < 6 by decide, show 0 ≤ 1000 by decide, rowD tp xs, rfl, _, row_seq tp xs, ?_⟩
  have inner : ∀ (R : Option D) (a : Option D) (x : Str) (ys : List Str) (found : List D) (x5 : Option D) (de : DE), found.length + 2 * ys.length ≤ LIM → (∀ x5, de.nx [R, some (.int m), some (.lst (found ++ ys.flatMap fun y => [tgD m x y, tgD m y x])), a, some (.str x), x5] n) →
      sForL (gNm 5) (sExt 2 (eLst (eCons (eTup (eCons (eTup (eCons (eC (.str "done")) (eCons (eVar 4) eNil))) (eCons (eTup (eCons (eC (.str "done")) (eCons (eVar 5) eNil))) (eCons (eVar 1) eNil)))) (eCons (eTup (eCons (eTup (eCons (eC (.str "done")) (eCons (eVar 5) eNil))) (eCons (eTup (eCons (eC (.str "done")) (eCons (eVar 4) eNil))) (eCons (eVar 1) eNil)))) eNil)))) xq de
        (ys.map .str) [R, some (.int m), some (.lst found), a, some (.str x), x5] n := by
    intro R a x ys
    induction ys with
    | nil =>
      intro found x5 de hl q
      have := q x5
      rw [List.flatMap_nil, List.append_nil] at this
      exact this
    | cons y ys ih =>
      intro found x5 de hl q
      rw [List.length_cons] at hl
      refine ⟨found, rfl, .str x, rfl, show 2 ≤ 1000 by decide, .str y, rfl, show 2 ≤ 1000 by decide, .int m, rfl, show 3 ≤ 1000 by decide, .str y, rfl, show 2 ≤ 1000 by decide, .str x, rfl, show 2 ≤ 1000 by decide, .int m, rfl, show 3 ≤ 1000 by decide, show 2 ≤ 1000 by decide, [tgD m x y, tgD m y x], rfl, by show found.length + 2 ≤ LIM; omega, ?_⟩
      refine ih (found ++ [tgD m x y, tgD m y x]) _ de (by rw [List.length_append]; show found.length + 2 + 2 * ys.length ≤ LIM; omega) (fun x5 => ?_)
      have := q x5
      rw [List.flatMap_cons, ← List.append_assoc] at this
      exact this
  have outer : ∀ (rest : List Str) (k : Nat) (found : List D) (x3 x4 x5 : Option D) (de : DE), xs.drop k = rest → found.length + (togD m rest).length ≤ LIM → (∀ x3 x4 x5, de.nx [some (rowD tp xs), some (.int m), some (.lst (found ++ togD m rest)), x3, x4, x5] n) →
      sForL (gTp (gsCons (gNm 3) (gsCons (gNm 4) gsNil))) (sFor (eIter (eSl (eVar 0) (oSome (eBin dAdd (eVar 3) (eC (.int 1)))) oNone)) (gNm 5) (sExt 2 (eLst (eCons (eTup (eCons (eTup (eCons (eC (.str "done")) (eCons (eVar 4) eNil))) (eCons (eTup (eCons (eC (.str "done")) (eCons (eVar 5) eNil))) (eCons (eVar 1) eNil)))) (eCons (eTup (eCons (eTup (eCons (eC (.str "done")) (eCons (eVar 5) eNil))) (eCons (eTup (eCons (eC (.str "done")) (eCons (eVar 4) eNil))) (eCons (eVar 1) eNil)))) eNil))))) xq de
        (pairsD k (rest.map .str)) [some (rowD tp xs), some (.int m), some (.lst found), x3, x4, x5] n := by
    intro rest
    induction rest with
    | nil =>
      intro k found x3 x4 x5 de _ _ q
      have := q x3 x4 x5
      rw [show togD m [] = [] from rfl, List.append_nil] at this
      exact this
    | cons x rest ih =>
      intro k found x3 x4 x5 de hd hl q
      have hd2 : xs.drop (k + 1) = rest := by rw [← List.drop_drop, hd]; rfl
      have el : (togD m (x :: rest)).length = 2 * rest.length + (togD m rest).length := by
        show ((rest.flatMap fun y => [tgD m x y, tgD m y x]) ++ togD m rest).length = _
        rw [List.length_append, flat_len]
      refine ⟨_, rfl, .int k, [.str x], rfl, .str x, [], rfl, rfl, ?_⟩
      refine ⟨rowD tp xs, rfl, .int k, rfl, .int ((k + 1 : Nat) : Int), rfl, _, rfl, _, row_from tp xs (k + 1), _, row_iter _ _, ?_⟩
      rw [hd2]
      refine inner _ _ x rest found x5 _ (by omega) (fun x5 => ?_)
      refine ih (k + 1) _ _ _ _ de hd2 (by rw [List.length_append, flat_len]; omega) (fun x3 x4 x5 => ?_)
      have := q x3 x4 x5
      rw [show togD m (x :: rest) = (rest.flatMap fun y => [tgD m x y, tgD m y x]) ++ togD m rest from rfl, ← List.append_assoc] at this
      exact this
  refine outer xs 0 [] none none none _ rfl (by simpa using tog_lim hx) (fun x3 x4 x5 => ?_)
  exact ⟨.lst (togD m xs), rfl, q⟩
theorem range_cons (k m : Nat) : List.range' k (m + 1) = k :: List.range' (k + 1) m := rfl
theorem at_of {xs ys : List Str} {x : Str} {k : Nat} (h : xs.drop k = x :: ys) : dIdx (.lst (xs.map .str)) (.int (k : Int)) = some (.str x) := by
  have hlt : k < xs.length := by
    rcases Nat.lt_or_ge k xs.length with h1 | h1
    · exact h1
    · rw [List.drop_eq_nil_of_le h1] at h
      cases h
  have e : xs[k]? = some x := by
    have h2 : (xs.drop k)[0]? = some x := by rw [h]; rfl
    rw [List.getElem?_drop] at h2
    exact h2
  show atI (xs.map D.str) (k : Int) = _
  unfold atI ixN
  rw [if_pos (by omega), List.length_map, if_pos (by omega), Option.bind_some, Int.toNat_natCast, List.getElem?_map, e]
  rfl
theorem drop_len {xs ys : List Str} {x : Str} {k : Nat} (h : xs.drop k = x :: ys) : xs.length = k + 1 + ys.length := by
  have len := (List.length_drop ..).symm.trans (congrArg List.length h)
  rw [List.length_cons] at len
  omega
theorem drop_next {xs ys : List Str} {x : Str} {k : Nat} (h : xs.drop k = x :: ys) : xs.drop (k + 1) = ys := by rw [← List.drop_drop, h]; rfl
theorem M__law_together (cl : Str → Addr) : Meets 2 N__law_together (sp__law_together cl) (m__law_together cl) := by
  intro ds n Q xq hl h
  obtain ⟨xs, m, rfl, hx, q⟩ := h
  refine ⟨show 2 < 5 by decide, show 0 ≤ 1000 by decide, .lst (xs.map .str), rfl, .int (xs.map D.str).length, rfl, ((xs.map D.str).length : Int), rfl, by rw [List.length_map]; unfold LIM; omega, by omega, ?_⟩
  rw [Int.toNat_natCast, List.length_map]
  let body : SM := sSeq (sApp 2 (eTup (eCons (eTup (eCons (eC (.str "done")) (eCons (eBin dIdx (eVar 0) (eVar 3)) eNil))) (eCons (eTup (eCons (eC (.str "done")) (eCons (eBin dIdx (eVar 0) (eVar 4)) eNil))) (eCons (eVar 1) eNil))))) (sApp 2 (eTup (eCons (eTup (eCons (eC (.str "done")) (eCons (eBin dIdx (eVar 0) (eVar 4)) eNil))) (eCons (eTup (eCons (eC (.str "done")) (eCons (eBin dIdx (eVar 0) (eVar 3)) eNil))) (eCons (eVar 1) eNil)))))
  have inner : ∀ (x : Str) (k : Nat) (zs : List Str), xs.drop k = x :: zs → ∀ (ys : List Str) (j : Nat) (found : List D) (x4 : Option D) (de : DE), xs.drop j = ys → found.length + 2 * ys.length ≤ LIM → (∀ x4, de.nx [some (.lst (xs.map .str)), some (.int m), some (.lst (found ++ ys.flatMap fun y => [tgD m x y, tgD m y x])), some (.int (k : Nat)), x4] n) →
      sForL (gNm 4) body xq de ((List.range' j ys.length).map fun i => D.int (i : Nat)) [some (.lst (xs.map .str)), some (.int m), some (.lst found), some (.int (k : Nat)), x4] n := by
    intro x k zs hk ys
    induction ys with
    | nil =>
      intro j found x4 de _ hl q
      have := q x4
      rw [List.flatMap_nil, List.append_nil] at this
      exact this
    | cons y ys ih =>
      intro j found x4 de hj hl q
      rw [List.length_cons] at hl
      rw [List.length_cons, range_cons, List.map_cons]
      refine ⟨found, rfl, .lst (xs.map .str), rfl, .int k, rfl, .str x, at_of hk, show 2 ≤ 1000 by decide, .lst (xs.map .str), rfl, .int j, rfl, .str y, at_of hj, show 2 ≤ 1000 by decide, .int m, rfl, show 3 ≤ 1000 by decide, by omega, ?_⟩
      refine ⟨found ++ [tgD m x y], rfl, .lst (xs.map .str), rfl, .int j, rfl, .str y, at_of hj, show 2 ≤ 1000 by decide, .lst (xs.map .str), rfl, .int k, rfl, .str x, at_of hk, show 2 ≤ 1000 by decide, .int m, rfl, show 3 ≤ 1000 by decide, by rw [List.length_append]; show found.length + 1 < LIM; omega, ?_⟩
      rw [List.append_assoc]
      refine ih (j + 1) (found ++ ([tgD m x y] ++ [tgD m y x])) _ de (drop_next hj) (by rw [List.length_append]; show found.length + 2 + 2 * ys.length ≤ LIM; omega) (fun x4 => ?_)
      have := q x4
      rw [List.flatMap_cons, ← List.append_assoc] at this
      exact this
  have outer : ∀ (rest : List Str) (k : Nat) (found : List D) (x3 x4 : Option D) (de : DE), xs.drop k = rest → found.length + (togD m rest).length ≤ LIM → (∀ x3 x4, de.nx [some (.lst (xs.map .str)), some (.int m), some (.lst (found ++ togD m rest)), x3, x4] n) →
      sForL (gNm 3) (sFor (eRange2 (eBin dAdd (eVar 3) (eC (.int 1))) (eBlt dLen (eCons (eVar 0) eNil))) (gNm 4) body) xq de
        ((List.range' k rest.length).map fun i => D.int (i : Nat)) [some (.lst (xs.map .str)), some (.int m), some (.lst found), x3, x4] n := by
    intro rest
    induction rest with
    | nil =>
      intro k found x3 x4 de _ _ q
      have := q x3 x4
      rw [show togD m [] = [] from rfl, List.append_nil] at this
      exact this
    | cons x rest ih =>
      intro k found x3 x4 de hd hl q
      have el : (togD m (x :: rest)).length = 2 * rest.length + (togD m rest).length := by
        show ((rest.flatMap fun y => [tgD m x y, tgD m y x]) ++ togD m rest).length = _
        rw [List.length_append, flat_len]
      have hlen := drop_len hd
      rw [List.length_cons, range_cons, List.map_cons]
      refine ⟨.int k, rfl, .int ((k : Int) + 1), rfl, .lst (xs.map .str), rfl, .int (xs.map D.str).length, rfl, (k : Int) + 1, ((xs.map D.str).length : Int), rfl, rfl, ⟨by omega, by omega, by omega, by rw [List.length_map]; omega⟩, ?_⟩
      have e : (((xs.map D.str).length : Int) - ((k : Int) + 1)).toNat = rest.length := by rw [List.length_map]; omega
      have e2 : ((List.range rest.length).map fun i => D.int ((k : Int) + 1 + (i : Nat))) = (List.range' (k + 1) rest.length).map fun i => D.int (i : Nat) := by
        rw [List.range'_eq_map_range, List.map_map]
        apply List.map_congr_left
        intro i _
        show D.int _ = D.int _
        congr 1
      rw [e, e2]
      refine inner x k rest hd rest (k + 1) found x4 _ (drop_next hd) (by omega) (fun x4 => ?_)
      refine ih (k + 1) _ _ _ de (drop_next hd) (by rw [List.length_append, flat_len]; omega) (fun x3 x4 => ?_)
      have := q x3 x4
      rw [show togD m (x :: rest) = (rest.flatMap fun y => [tgD m x y, tgD m y x]) ++ togD m rest from rfl, ← List.append_assoc] at this
      exact this
  rw [List.range_eq_range']
  refine outer xs 0 [] none none _ rfl (by simpa using tog_lim hx) (fun x3 x4 => ?_)
  exact ⟨.lst (togD m xs), rfl, q⟩
theorem zip_self_get : ∀ (xs : List D) (d : D), d ∈ zipD xs xs → ∃ x ∈ xs, d = .tup [x, x]
  | [], d, h => by cases h
  | x :: xs, d, h => by
    have h : d ∈ .tup [x, x] :: zipD xs xs := h
    refine (List.mem_cons.mp h).elim (fun e => ⟨x, List.mem_cons_self, e⟩) fun h => ?_
    exact (zip_self_get xs d h).imp fun y ⟨hy, e⟩ => ⟨List.mem_cons_of_mem _ hy, e⟩
theorem M__law_same (cl : Str → Addr) (d : Nat) (hd : d ≤ 10) : Meets 2 N__law_same (sp_sameN (d + 1)) (m__law_same cl (sp_sameN d)) := by
  intro ds n Q xq hl h
  obtain ⟨x, rfl, hx, q⟩ := h
  have hok := plain_okD hx (by omega)
  have hself := (plain_ok d x hx).2.2
  have he : dEq x x = some (.bl true) := by rw [dEq_ok hok hok, hself]
  -- a list, a tuple
  have seq : ∀ (xs : List D) (x : D) (s0 : Ev), s0 = startD N__law_same [x, x] → dZip x x = some (zipD xs xs) → dLen [x] = some (.int xs.length) → xs.length ≤ 10000 → (∀ y ∈ xs, ∃ d', d = d' + 1 ∧ plainD d' y = true) →
      sRet (eAnd (eBin dEq (eBlt dLen (eCons (eVar 0) eNil)) (eBlt dLen (eCons (eVar 1) eNil))) (eBlt dAll (eCons (eLc (eZip (eVar 0) (eVar 1)) [2, 3] (gTp (gsCons (gNm 2) (gsCons (gNm 3) gsNil))) tYesD (eCall 2 (sp_sameN d) [] (eCons (eVar 2) (eCons (eVar 3) eNil)))) eNil))) xq { nx := fun _ n' => Q .non n', rt := Q } s0 n := by
    intro xs x s0 e0 ez el hlen hall
    subst e0
    refine ⟨x, rfl, _, el, x, rfl, _, el, .bl true, ?_, true, rfl, ?_⟩
    · rw [dEq_ok (okD_int _) (okD_int _)]
      show some (D.bl (((xs.length : Nat) : Int) == ((xs.length : Nat) : Int))) = _
      rw [beq_self_eq_true]
    · refine ⟨x, rfl, x, rfl, _, ez, by rw [zipD_length, Nat.min_self]; unfold LIM; omega, ?_⟩
      refine lc_map (f := fun _ => .bl true) _ _ (fun d1 hd1 Q' q' => ?_) ⟨.bl true, all_true _, q⟩
      obtain ⟨y, hy, rfl⟩ := zip_self_get xs d1 hd1
      obtain ⟨d', rfl, hp⟩ := hall y hy
      exact ⟨[y, y], rfl, y, [y], rfl, y, [], rfl, rfl, y, rfl, y, rfl, rfl, y, rfl, hp, q'⟩
  cases x with
  | str x =>
    refine ⟨.str x, rfl, show 2 ≤ 1000 by decide, _, rfl, _, rfl, ?_⟩
    refine ⟨.str x, rfl, _, isi1 rfl (by decide), _, rfl, ?_⟩
    exact ⟨.str x, rfl, show 3 ≤ 1000 by decide, _, rfl, _, rfl, _, rfl, .str x, rfl, .str x, rfl, _, he, q⟩
  | int i =>
    refine ⟨.int i, rfl, show 2 ≤ 1000 by decide, _, rfl, _, rfl, ?_⟩
    refine ⟨.int i, rfl, _, isi1 rfl (by decide), _, rfl, ?_⟩
    exact ⟨.int i, rfl, _, isi1 rfl (by decide), _, rfl, .int i, rfl, _, isi1 rfl (by decide), .int i, rfl, _, isi1 rfl (by decide), _, rfl, _, rfl, .int i, rfl, .int i, rfl, _, he, q⟩
  | tup xs =>
    cases d with
    | zero => cases hx
    | succ d =>
      have hx : (decide (xs.length ≤ 10000) && xs.all (plainD d)) = true := hx
      obtain ⟨h1, h2⟩ := Bool.and_eq_true_iff.mp hx
      refine ⟨.tup xs, rfl, show 2 ≤ 1000 by decide, _, rfl, _, rfl, ?_⟩
      refine ⟨.tup xs, rfl, _, isi1 rfl (by decide), .tup xs, rfl, _, isi1 rfl (by decide), false, rfl, ?_⟩
      refine ⟨.tup xs, rfl, _, isi1 rfl (by decide), .tup xs, rfl, _, isi1 rfl (by decide), false, rfl, ?_⟩
      exact seq xs (.tup xs) _ rfl rfl rfl (of_decide_eq_true h1) fun y hy => ⟨d, rfl, List.all_eq_true.mp h2 y hy⟩
  | lst xs =>
    cases d with
    | zero => cases hx
    | succ d =>
      have hx : (decide (xs.length ≤ 10000) && xs.all (plainD d)) = true := hx
      obtain ⟨h1, h2⟩ := Bool.and_eq_true_iff.mp hx
      refine ⟨.lst xs, rfl, show 2 ≤ 1000 by decide, _, rfl, _, rfl, ?_⟩
      refine ⟨.lst xs, rfl, _, isi1 rfl (by decide), .lst xs, rfl, _, isi1 rfl (by decide), false, rfl, ?_⟩
      refine ⟨.lst xs, rfl, _, isi1 rfl (by decide), .lst xs, rfl, _, isi1 rfl (by decide), false, rfl, ?_⟩
      exact seq xs (.lst xs) _ rfl rfl rfl (of_decide_eq_true h1) fun y hy => ⟨d, rfl, List.all_eq_true.mp h2 y hy⟩
  | _ => cases d <;> cases hx
end DL
namespace DL
open PySem PySem.Spec PyProof.Rows L2
theorem pairs_names (nm : List Str) : pairsK (nm.map fun x => D.tup [.str x, b12]) = some (nm.map fun x => ((.inr x : Key), b12)) := by
  induction nm with
  | nil => rfl
  | cons x xs ih =>
    show (match pairK (D.tup [.str x, b12]), pairsK (xs.map fun x => D.tup [.str x, b12]) with | some p, some r => some (p :: r) | _, _ => none) = _
    rw [ih]
    rfl
theorem merge_names (nm done : List Str) (h : (done ++ nm).Nodup) : mergeD (done.map fun x => ((.inr x : Key), b12)) (nm.map fun x => ((.inr x : Key), b12)) = (done ++ nm).map fun x => ((.inr x : Key), b12) := by
  induction nm generalizing done with
  | nil => rw [List.append_nil]; rfl
  | cons x xs ih =>
    have hx : x ∉ done := fun z => by
      rw [List.nodup_append] at h
      exact h.2.2 x z x List.mem_cons_self rfl
    show mergeD (putD (done.map fun x => ((.inr x : Key), b12)) (.inr x) b12) (xs.map fun x => ((.inr x : Key), b12)) = _
    rw [put_new hx, ih (done ++ [x]) (by rw [List.append_assoc]; exact h), List.append_assoc]
    rfl
theorem dict_names (nm : List Str) (h : nm.Nodup) : dDict [.lst (nm.map fun x => D.tup [.str x, b12])] = some (.dic (nm.map fun x => (.inr x, b12))) := by
  show (pairsK (nm.map fun x => D.tup [.str x, b12])).map (fun kvs => D.dic (mergeD [] kvs)) = _
  rw [pairs_names, Option.map_some]
  have := merge_names nm [] (by simpa using h)
  rw [List.map_nil, List.nil_append] at this
  rw [this]
theorem good_tg {ks : List Str} {m : Int} {x y : Str} (hx : x ∈ ks) (hy : y ∈ ks) : GoodW ks (tgD m x y) := ⟨_, _, _, rfl, .inr ⟨x, hx, .inl rfl⟩, .inr ⟨y, hy, .inl rfl⟩⟩
theorem good_tog {ks : List Str} {m : Int} : ∀ {xs : List Str}, (∀ x ∈ xs, x ∈ ks) → ∀ w ∈ togD m xs, GoodW ks w
  | [], _, w, h => by cases h
  | x :: xs, hx, w, h => by
    have h : w ∈ (xs.flatMap fun y => [tgD m x y, tgD m y x]) ++ togD m xs := h
    refine (List.mem_append.mp h).elim (fun h => ?_) fun h => ?_
    · obtain ⟨y, hy, h⟩ := List.mem_flatMap.mp h
      have h : w = tgD m x y ∨ w = tgD m y x := by simpa using h
      rcases h with rfl | rfl
      · exact good_tg (hx x List.mem_cons_self) (hx y (List.mem_cons_of_mem _ hy))
      · exact good_tg (hx y (List.mem_cons_of_mem _ hy)) (hx x List.mem_cons_self)
    · exact good_tog (fun y hy => hx y (List.mem_cons_of_mem _ hy)) w h
theorem ok_done : PyData.strOk "done" = true := by decide +kernel
theorem ok_start : PyData.strOk "start" = true := by decide +kernel
theorem plain_good {ks : List Str} (hk : ∀ x ∈ ks, PyData.strOk x = true) {w : D} (h : GoodW ks w) : plainD 2 w = true := by
  obtain ⟨a, b, i, rfl, ha, hb⟩ := h
  have key : ∀ {a : D}, GoodM ks a → plainD 1 a = true := fun {a} ha => by
    rcases ha with rfl | ⟨x, hx, rfl | rfl⟩
    · show PyData.strOk "clock" = true
      decide +kernel
    · show (decide (2 ≤ 10000) && (PyData.strOk "done" && (PyData.strOk x && true))) = true
      rw [hk x hx, ok_done]
      rfl
    · show (decide (2 ≤ 10000) && (PyData.strOk "start" && (PyData.strOk x && true))) = true
      rw [hk x hx, ok_start]
      rfl
  show (decide (3 ≤ 10000) && (plainD 1 a && (plainD 1 b && (plainD 1 (.int i) && true)))) = true
  rw [key ha, key hb]
  rfl
theorem plain_list {d : Nat} {xs : List D} (hl : xs.length ≤ 10000) (h : ∀ x ∈ xs, plainD d x = true) : plainD (d + 1) (.lst xs) = true := by
  show (decide (xs.length ≤ 10000) && xs.all (plainD d)) = true
  rw [Bool.and_eq_true, decide_eq_true_eq, List.all_eq_true]
  exact ⟨hl, h⟩
/-- one turn's lists -/
structure Turn5 (nm row rest : List Str) (a b : Str) (m : Int) (due : List D) : Prop where
  good : ∀ x ∈ nm, x ∈ NAMES
  nd : nm.Nodup
  len : nm.length ≤ 6
  ha : a ∈ nm
  hb : b ∈ nm
  sub : ∀ x ∈ row, x ∈ nm
  rl : row.length ≤ 6
  sub2 : ∀ x ∈ rest, x ∈ nm
  rl2 : rest.length ≤ 6
  du : due = [.lst (togD m row), .lst (rest.map fun y => tgD m a y), .lst (row.map (rdD m)), .lst [bhD m a b]]
section
variable {nm row rest : List Str} {a b : Str} {m : Int} {due : List D} (T : Turn5 nm row rest a b m due)
include T
theorem T5.ok : ∀ x ∈ nm, PyData.strOk x = true := fun x hx => names_ok x (T.good x hx)
theorem T5.w1 : ∀ w ∈ togD m row, GoodW nm w := good_tog T.sub
theorem T5.w2 : ∀ w ∈ rest.map fun y => tgD m a y, GoodW nm w := fun w h => by
  obtain ⟨y, hy, rfl⟩ := List.mem_map.mp h
  exact good_tg T.ha (T.sub2 y hy)
theorem T5.w3 : ∀ w ∈ row.map (rdD m), GoodW nm w := fun w h => by
  obtain ⟨y, hy, rfl⟩ := List.mem_map.mp h
  exact ⟨_, _, _, rfl, .inl rfl, .inr ⟨y, T.sub y hy, .inl rfl⟩⟩
theorem T5.w4 : ∀ w ∈ [bhD m a b], GoodW nm w := fun w h => by
  have h : w = bhD m a b := by simpa using h
  subst h
  exact ⟨_, _, _, rfl, .inr ⟨a, T.ha, .inr rfl⟩, .inr ⟨b, T.hb, .inl rfl⟩⟩
theorem T5.tl : (togD m row).length ≤ 72 := by
  have h1 := tog_len m row
  have h2 : row.length * row.length ≤ 6 * 6 := Nat.mul_le_mul T.rl T.rl
  omega
theorem T5.plain : plainD 4 (.lst due) = true := by
  have rl := T.rl
  have rl2 := T.rl2
  have tl := T5.tl T
  have ok := T5.ok T
  rw [T.du]
  refine plain_list (by show 4 ≤ 10000; decide) fun x hx => ?_
  have hx : x = .lst (togD m row) ∨ x = .lst (rest.map fun y => tgD m a y) ∨ x = .lst (row.map (rdD m)) ∨ x = .lst [bhD m a b] := by simpa using hx
  rcases hx with rfl | rfl | rfl | rfl
  · exact plain_list (by omega) fun w hw => plain_good ok (T5.w1 T w hw)
  · exact plain_list (by rw [List.length_map]; omega) fun w hw => plain_good ok (T5.w2 T w hw)
  · exact plain_list (by rw [List.length_map]; omega) fun w hw => plain_good ok (T5.w3 T w hw)
  · exact plain_list (by show 1 ≤ 10000; decide) fun w hw => plain_good ok (T5.w4 T w hw)
end
/-- the second half of a turn -/
theorem T5_inner (cl : Str → Addr) {nm row rest : List Str} {a b : Str} {m : Int} {due : List D} (T : Turn5 nm (row) rest a b m due) (tl : List Str) (hnm : nm = a :: b :: tl) (xq : XQ) (de : DE) (x2 x7 x8 x11 x12 x13 x14 : Option D) (n : Nat) (hn : n < 2 ^ 20)
    (q : ∀ x8 x11 x13 x14, de.nx [none, some .st, x2, some (.lst (nm.map .str)), some (.int m), some (.lst (rest.map .str)), some (.lst due), x7, x8, some (.lst (row.map .str)), some (.str a), x11, x12, x13, x14] (n + 2)) :
    (sSeq (sPar 13 14 (eCall 2 (sp__law_one cl) [] (eCons (eVar 1) (eCons (eLst (eCons (eBlt dList (eCons (eVar 9) eNil)) (eCons (eBlt dTuple (eCons (eVar 9) eNil)) eNil))) eNil))) (eCall 2 (sp__law_one cl) [] (eCons (eVar 1) (eCons (eLst (eCons (eBlt dList (eCons (eVar 5) eNil)) (eCons (eBlt dTuple (eCons (eVar 5) eNil)) eNil))) eNil)))) (sMore 11 8 (eCall 2 (sp_together cl) [] (eCons (eVar 13) (eCons (eVar 4) eNil))) (eCall 3 (sp_keeping cl) [] (eCons (eVar 10) (eCons (eVar 14) (eCons (eVar 4) eNil)))) (eCall 2 (sp_ready_by cl) [] (eCons (eVar 13) (eCons (eVar 4) eNil))) (eCall 3 (sp_behind cl) [] (eCons (eVar 10) (eCons (eBin dIdx (eVar 3) (eC (.int 1))) (eCons (eVar 4) eNil)))) (tOrD (tNotD (tVal (eCall 2 (sp__law_same cl) [] (eCons (eVar 11) (eCons (eVar 6) eNil))))) (eBinT dNe (eBlt dList (eCons (eVar 13) eNil)) (eVar 9)))))
      xq de [none, some .st, x2, some (.lst (nm.map .str)), some (.int m), some (.lst (rest.map .str)), some (.lst due), x7, x8, some (.lst (row.map .str)), some (.str a), x11, x12, x13, x14] n := by
  have pick : ∀ {xs : List Str} {g : D}, g ∈ [D.lst (xs.map .str), D.tup (xs.map .str)] → ∃ tp, g = rowD tp xs := fun {xs g} hg => by
    have hg : g = D.lst (xs.map .str) ∨ g = D.tup (xs.map .str) := by simpa using hg
    rcases hg with rfl | rfl
    · exact ⟨false, rfl⟩
    · exact ⟨true, rfl⟩
  have rl := T.rl
  have rl2 := T.rl2
  have tl' := T5.tl T
  refine ⟨.st, rfl, .lst (row.map .str), rfl, _, rfl, .lst (row.map .str), rfl, _, rfl, show 2 ≤ 1000 by decide, rfl, _, rfl, show 0 < 2 by decide, show 2 ≤ 1000 by decide, by omega, fun g hg => ?_⟩
  refine ⟨.st, rfl, .lst (rest.map .str), rfl, _, rfl, .lst (rest.map .str), rfl, _, rfl, show 2 ≤ 1000 by decide, rfl, _, rfl, show 0 < 2 by decide, show 2 ≤ 1000 by decide, by omega, fun l hl => ?_⟩
  obtain ⟨tp, rfl⟩ := pick hg
  obtain ⟨tp2, rfl⟩ := pick hl
  refine ⟨show 11 < 15 by decide, show 8 < 15 by decide, ?_⟩
  refine ⟨rowD tp row, rfl, .int m, rfl, rfl, tp, row, m, rfl, by omega, ?_⟩
  refine ⟨.str a, rfl, rowD tp2 rest, rfl, .int m, rfl, rfl, tp2, rest, m, a, rfl, by omega, ?_⟩
  refine ⟨rowD tp row, rfl, .int m, rfl, rfl, tp, row, m, rfl, by omega, ?_⟩
  have eb : dIdx (.lst (nm.map .str)) (.int 1) = some (.str b) := by rw [hnm]; exact at_of (k := 1) (xs := a :: b :: tl) rfl
  refine ⟨.str a, rfl, .lst (nm.map .str), rfl, .str b, eb, .int m, rfl, rfl, a, b, m, rfl, ?_⟩
  refine ⟨_, _, _, _, rfl, rfl, rfl, rfl, by unfold LIM; omega, by rw [List.length_map]; unfold LIM; omega, by rw [List.length_map]; unfold LIM; omega, show 1 ≤ LIM by decide, ?_⟩
  have hdue := T.du
  refine ⟨.lst due, by rw [hdue]; rfl, .lst due, rfl, rfl, .lst due, rfl, T5.plain T, true, rfl, ?_⟩
  have e1 : dList [rowD tp row] = some (.lst (row.map .str)) := by cases tp <;> rfl
  have pr : plainD 1 (.lst (row.map .str)) = true := plain_strs (by omega) fun x hx => T5.ok T x (T.sub x hx)
  have e2 : dNe (.lst (row.map .str)) (.lst (row.map .str)) = some (.bl false) := by rw [dNe_ok (plain_okD pr (by decide)) (plain_okD pr (by decide)), (plain_ok 1 _ pr).2.2]; rfl
  exact ⟨rowD tp row, rfl, _, e1, .lst (row.map .str), rfl, false, e2, q _ _ _ _⟩
/-- the texts that are not a -/
def notA (a : Str) (xs : List Str) : List Str := xs.filter fun y => !pyEq (.str y) (.str a)
theorem lc_notA {xq : XQ} {a : Str} {s0 : Ev} {n : Nat} {Q : List D → Nat → Prop} (ha : PyData.strOk a = true) (h10 : s0[10]? = some (some (.str a))) (h12 : 12 < s0.length) : ∀ (xs acc : List Str), (∀ x ∈ xs, PyData.strOk x = true) → Q ((acc ++ notA a xs).map .str) n → sLcL (gNm 12) (eBinT dNe (eVar 12) (eVar 10)) (eVar 12) xq s0 (xs.map .str) n (acc.map .str) Q
  | [], acc, _, q => by
    rw [show notA a [] = [] from rfl, List.append_nil] at q
    exact q
  | x :: xs, acc, hok, q => by
    have g12 : (s0.set 12 (some (D.str x)))[12]? = some (some (.str x)) := List.getElem?_set_self h12
    have g10 : (s0.set 12 (some (D.str x)))[10]? = some (some (.str a)) := by rw [set_other (by decide)]; exact h10
    have ih := lc_notA (xq := xq) (n := n) (Q := Q) ha h10 h12 xs
    refine ⟨.str x, g12, .str a, g10, _, dNe_ok (okD_str (hok x List.mem_cons_self)) (okD_str ha), ?_⟩
    cases e : pyEq (.str x) (.str a) with
    | true =>
      have e2 : notA a (x :: xs) = notA a xs := by unfold notA; rw [List.filter_cons, e]; rfl
      rw [e2] at q
      exact ih acc (fun y hy => hok y (List.mem_cons_of_mem _ hy)) q
    | false =>
      have e2 : notA a (x :: xs) = x :: notA a xs := by unfold notA; rw [List.filter_cons, e]; rfl
      rw [e2] at q
      refine ⟨.str x, g12, ?_⟩
      have := ih (acc ++ [x]) (fun y hy => hok y (List.mem_cons_of_mem _ hy)) (by rw [List.append_assoc]; exact q)
      rw [List.map_append] at this
      exact this
theorem T5_end (cl : Str → Addr) {nm row rest : List Str} {a b : Str} {m : Int} {due : List D} (T : Turn5 nm row rest a b m due) (xq : XQ) (de : DE) (x2 x7 x8 x11 x12 x13 x14 : Option D) (n : Nat)
    (q : ∀ x8, de.nx [none, some .st, x2, some (.lst (nm.map .str)), some (.int m), some (.lst (rest.map .str)), some (.lst due), x7, x8, some (.lst (row.map .str)), some (.str a), x11, x12, x13, x14] n) :
    (sSeq (sSet 8 (eBin dAdd (eBin dAdd (eBin dAdd (eSl (eBin dIdx (eVar 6) (eC (.int 0))) oNone (oSome (eC (.int 12)))) (eBin dIdx (eVar 6) (eC (.int 1)))) (eBin dIdx (eVar 6) (eC (.int 2)))) (eBin dIdx (eVar 6) (eC (.int 3))))) (sIf (eBinT dNe (eMeth (cl "Meal") "wishes" 1 (sp_Meal_wishes cl) [] (eMake 4 (sp_Meal___init__ cl) [.tup []] (eCons (eBlt dDict (eCons (eLc (eIter (eVar 3)) [12] (gNm 12) tYesD (eTup (eCons (eVar 12) (eCons (eTup (eCons (eC (.int 1)) (eCons (eC (.int 2)) eNil))) eNil)))) eNil)) (eCons (eVar 8) eNil))) eNil) (eVar 8)) (sRet (eC (.bl false))) sNil))
      xq de [none, some .st, x2, some (.lst (nm.map .str)), some (.int m), some (.lst (rest.map .str)), some (.lst due), x7, x8, some (.lst (row.map .str)), some (.str a), x11, x12, x13, x14] n := by
  have rl := T.rl
  have rl2 := T.rl2
  have tl' := T5.tl T
  have nl := T.len
  have hdue := T.du
  have c1 : cutL (togD m row) none (some ((12 : Nat) : Int)) = (togD m row).take 12 := cut_to _ 12
  have l1 : ((togD m row).take 12).length ≤ 12 := by rw [List.length_take]; omega
  have i0 : dIdx (.lst due) (.int 0) = some (.lst (togD m row)) := by rw [hdue]; rfl
  have i1 : dIdx (.lst due) (.int 1) = some (.lst (rest.map fun y => tgD m a y)) := by rw [hdue]; rfl
  have i2 : dIdx (.lst due) (.int 2) = some (.lst (row.map (rdD m))) := by rw [hdue]; rfl
  have i3 : dIdx (.lst due) (.int 3) = some (.lst [bhD m a b]) := by rw [hdue]; rfl
  have add : ∀ {xs ys : List D}, xs.length + ys.length ≤ 1000 → dAdd (.lst xs) (.lst ys) = some (.lst (xs ++ ys)) := fun {xs ys} h => if_pos (by unfold LIM; omega)
  have sl : dSl (.lst (togD m row)) none (some 12) = some (.lst ((togD m row).take 12)) := congrArg (fun z => some (D.lst z)) c1
  refine ⟨.lst due, rfl, _, i0, 12, rfl, _, sl, .lst due, rfl, _, i1, _, add (by rw [List.length_map]; omega), .lst due, rfl, _, i2, _, add (by rw [List.length_append, List.length_map, List.length_map]; omega), .lst due, rfl, _, i3, _, add (by rw [List.length_append, List.length_append, List.length_map, List.length_map]; show _ + 1 ≤ 1000; omega), ?_⟩
  generalize hws : (togD m row).take 12 ++ (rest.map fun y => tgD m a y) ++ row.map (rdD m) ++ [bhD m a b] = ws
  have wl : ws.length ≤ 1000 := by
    rw [← hws, List.length_append, List.length_append, List.length_append, List.length_map, List.length_map]
    show _ + 1 ≤ 1000
    omega
  have wg : ∀ w ∈ ws, GoodW nm w := fun w hw => by
    rw [← hws] at hw
    rcases List.mem_append.mp hw with hw | hw
    · rcases List.mem_append.mp hw with hw | hw
      · rcases List.mem_append.mp hw with hw | hw
        · exact T5.w1 T w (List.mem_of_mem_take hw)
        · exact T5.w2 T w hw
      · exact T5.w3 T w hw
    · exact T5.w4 T w hw
  have pw : plainD 3 (.lst ws) = true := plain_list (by omega) fun w hw => plain_good (T5.ok T) (wg w hw)
  have en : dNe (.lst ws) (.lst ws) = some (.bl false) := by rw [dNe_ok (plain_okD pw (by decide)) (plain_okD pw (by decide)), (plain_ok 3 _ pw).2.2]; rfl
  refine ⟨.lst (nm.map .str), rfl, nm.map .str, rfl, by rw [List.length_map]; unfold LIM; omega, ?_⟩
  refine lc_map (f := fun d => .tup [d, b12]) _ _ (fun d hd Q' q' => ⟨d, rfl, show 2 ≤ 1000 by decide, show 2 ≤ 1000 by decide, q'⟩) ?_
  have em : (nm.map D.str).map (fun d => D.tup [d, b12]) = nm.map fun x => D.tup [.str x, b12] := by rw [List.map_map]; rfl
  rw [List.nil_append, em]
  refine ⟨.dic (nm.map fun x => (.inr x, b12)), dict_names nm T.nd, .lst ws, rfl, rfl, nm, ws, rfl, by omega, T.nd, T.good, wl, wg, fun fs f1 f2 => ⟨⟨_, _, rfl⟩, fs, rfl, f2, rfl, fs, ws, rfl, f1, .lst ws, rfl, false, en, q _⟩⟩
end DL
namespace DL
open PySem PySem.Spec PyProof.Rows L2
def m_turn (cl : Str → Addr) : SM := (sSeq (sSet 3 (eCall 2 (sp__law_names cl) [] (eCons (eVar 1) (eCons (eBin dAdd (eC (.int 2)) (eCall 2 (sp__law_take cl) [] (eCons (eVar 1) (eCons (eC (.int 5)) eNil)))) eNil)))) (sSeq (sSet 4 (eCall 2 (sp__law_one cl) [] (eCons (eVar 1) (eCons (eLst (eCons (eC (.int 0)) (eCons (eC (.int 1)) (eCons (eC (.int 7)) (eCons (eNeg (eC (.int 3))) (eCons (eC (.int 999999999)) (eCons (eNeg (eC (.int 999999999))) (eCons (eCall 2 (sp__law_take cl) [] (eCons (eVar 1) (eCons (eC (.int 100)) eNil))) eNil)))))))) eNil)))) (sSeq (sAsg (eTup (eCons (eCall 2 (sp__law_some cl) [] (eCons (eVar 1) (eCons (eVar 3) eNil))) (eCons (eBin dIdx (eVar 3) (eC (.int 0))) eNil))) (gTp (gsCons (gNm 9) (gsCons (gNm 10) gsNil)))) (sSeq (sSetF 5 (eLc (eIter (eVar 9)) [12] (gNm 12) (eBinT dNe (eVar 12) (eVar 10)) (eVar 12))) (sSeq (sSetF 6 (eLst (eCons (eCall 2 (sp__law_together cl) [] (eCons (eVar 9) (eCons (eVar 4) eNil))) (eCons (eLc (eOwn 5) ([12] ++ [5]) (gNm 12) tYesD (eTup (eCons (eTup (eCons (eC (.str "done")) (eCons (eVar 10) eNil))) (eCons (eTup (eCons (eC (.str "done")) (eCons (eVar 12) eNil))) (eCons (eVar 4) eNil))))) eNil)))) (sSeq (sApp 6 (eLc (eIter (eVar 9)) [12] (gNm 12) tYesD (eTup (eCons (eC (.str "clock")) (eCons (eTup (eCons (eC (.str "done")) (eCons (eVar 12) eNil))) (eCons (eVar 4) eNil)))))) (sSeq (sApp 6 (eLst (eCons (eTup (eCons (eTup (eCons (eC (.str "start")) (eCons (eVar 10) eNil))) (eCons (eTup (eCons (eC (.str "done")) (eCons (eBin dIdx (eVar 3) (eC (.int 1))) eNil))) (eCons (eBin dSub (eC (.int 0)) (eVar 4)) eNil)))) eNil))) (sSeq (sFor (eRange1 (eC (.int 2))) (gNm 7) (sSeq (sPar 13 14 (eCall 2 (sp__law_one cl) [] (eCons (eVar 1) (eCons (eLst (eCons (eBlt dList (eCons (eVar 9) eNil)) (eCons (eBlt dTuple (eCons (eVar 9) eNil)) eNil))) eNil))) (eCall 2 (sp__law_one cl) [] (eCons (eVar 1) (eCons (eLst (eCons (eBlt dList (eCons (eVar 5) eNil)) (eCons (eBlt dTuple (eCons (eVar 5) eNil)) eNil))) eNil)))) (sMore 11 8 (eCall 2 (sp_together cl) [] (eCons (eVar 13) (eCons (eVar 4) eNil))) (eCall 3 (sp_keeping cl) [] (eCons (eVar 10) (eCons (eVar 14) (eCons (eVar 4) eNil)))) (eCall 2 (sp_ready_by cl) [] (eCons (eVar 13) (eCons (eVar 4) eNil))) (eCall 3 (sp_behind cl) [] (eCons (eVar 10) (eCons (eBin dIdx (eVar 3) (eC (.int 1))) (eCons (eVar 4) eNil)))) (tOrD (tNotD (tVal (eCall 2 (sp__law_same cl) [] (eCons (eVar 11) (eCons (eVar 6) eNil))))) (eBinT dNe (eBlt dList (eCons (eVar 13) eNil)) (eVar 9)))))) (sSeq (sSet 8 (eBin dAdd (eBin dAdd (eBin dAdd (eSl (eBin dIdx (eVar 6) (eC (.int 0))) oNone (oSome (eC (.int 12)))) (eBin dIdx (eVar 6) (eC (.int 1)))) (eBin dIdx (eVar 6) (eC (.int 2)))) (eBin dIdx (eVar 6) (eC (.int 3))))) (sIf (eBinT dNe (eMeth (cl "Meal") "wishes" 1 (sp_Meal_wishes cl) [] (eMake 4 (sp_Meal___init__ cl) [.tup []] (eCons (eBlt dDict (eCons (eLc (eIter (eVar 3)) [12] (gNm 12) tYesD (eTup (eCons (eVar 12) (eCons (eTup (eCons (eC (.int 1)) (eCons (eC (.int 2)) eNil))) eNil)))) eNil)) (eCons (eVar 8) eNil))) eNil) (eVar 8)) (sRet (eC (.bl false))) sNil))))))))))
theorem m_law_eq (cl : Str → Addr) : m_law cl = sSeq (sFor (eRange1 (eC (.int 4))) (gNm 2) (m_turn cl)) (sRet (eC (.bl true))) := rfl
def mIn (cl : Str → Addr) : SM := (sSeq (sPar 13 14 (eCall 2 (sp__law_one cl) [] (eCons (eVar 1) (eCons (eLst (eCons (eBlt dList (eCons (eVar 9) eNil)) (eCons (eBlt dTuple (eCons (eVar 9) eNil)) eNil))) eNil))) (eCall 2 (sp__law_one cl) [] (eCons (eVar 1) (eCons (eLst (eCons (eBlt dList (eCons (eVar 5) eNil)) (eCons (eBlt dTuple (eCons (eVar 5) eNil)) eNil))) eNil)))) (sMore 11 8 (eCall 2 (sp_together cl) [] (eCons (eVar 13) (eCons (eVar 4) eNil))) (eCall 3 (sp_keeping cl) [] (eCons (eVar 10) (eCons (eVar 14) (eCons (eVar 4) eNil)))) (eCall 2 (sp_ready_by cl) [] (eCons (eVar 13) (eCons (eVar 4) eNil))) (eCall 3 (sp_behind cl) [] (eCons (eVar 10) (eCons (eBin dIdx (eVar 3) (eC (.int 1))) (eCons (eVar 4) eNil)))) (tOrD (tNotD (tVal (eCall 2 (sp__law_same cl) [] (eCons (eVar 11) (eCons (eVar 6) eNil))))) (eBinT dNe (eBlt dList (eCons (eVar 13) eNil)) (eVar 9)))))
def mEnd (cl : Str → Addr) : SM := (sSeq (sSet 8 (eBin dAdd (eBin dAdd (eBin dAdd (eSl (eBin dIdx (eVar 6) (eC (.int 0))) oNone (oSome (eC (.int 12)))) (eBin dIdx (eVar 6) (eC (.int 1)))) (eBin dIdx (eVar 6) (eC (.int 2)))) (eBin dIdx (eVar 6) (eC (.int 3))))) (sIf (eBinT dNe (eMeth (cl "Meal") "wishes" 1 (sp_Meal_wishes cl) [] (eMake 4 (sp_Meal___init__ cl) [.tup []] (eCons (eBlt dDict (eCons (eLc (eIter (eVar 3)) [12] (gNm 12) tYesD (eTup (eCons (eVar 12) (eCons (eTup (eCons (eC (.int 1)) (eCons (eC (.int 2)) eNil))) eNil)))) eNil)) (eCons (eVar 8) eNil))) eNil) (eVar 8)) (sRet (eC (.bl false))) sNil))
theorem T5_loop (cl : Str → Addr) {nm row rest : List Str} {a b : Str} {m : Int} {due : List D} (T : Turn5 nm row rest a b m due) (tl : List Str) (hnm : nm = a :: b :: tl) (xq : XQ) (de : DE) (x2 x7 x8 x11 x12 x13 x14 : Option D) (n : Nat) (hn : n < 2 ^ 19)
    (q : ∀ x7 x8 x11 x13 x14, de.nx [none, some .st, x2, some (.lst (nm.map .str)), some (.int m), some (.lst (rest.map .str)), some (.lst due), x7, x8, some (.lst (row.map .str)), some (.str a), x11, x12, x13, x14] (n + 2 + 2)) :
    sSeq (sFor (eRange1 (eC (.int 2))) (gNm 7) (mIn cl)) (mEnd cl) xq de [none, some .st, x2, some (.lst (nm.map .str)), some (.int m), some (.lst (rest.map .str)), some (.lst due), x7, x8, some (.lst (row.map .str)), some (.str a), x11, x12, x13, x14] n := by
  refine ⟨2, rfl, by decide, by decide, ?_⟩
  have s1 : ∀ (de1 : DE), (∀ x8 x11 x13 x14, de1.nx [none, some .st, x2, some (.lst (nm.map .str)), some (.int m), some (.lst (rest.map .str)), some (.lst due), some (.int 0), x8, some (.lst (row.map .str)), some (.str a), x11, x12, x13, x14] (n + 2)) → mIn cl xq de1 [none, some .st, x2, some (.lst (nm.map .str)), some (.int m), some (.lst (rest.map .str)), some (.lst due), some (.int 0), x8, some (.lst (row.map .str)), some (.str a), x11, x12, x13, x14] n := fun de1 h => T5_inner cl T tl hnm xq de1 _ _ _ _ _ _ _ n (by omega) h
  have s2 : ∀ (de1 : DE) (x8 x11 x13 x14 : Option D), (∀ x8 x11 x13 x14, de1.nx [none, some .st, x2, some (.lst (nm.map .str)), some (.int m), some (.lst (rest.map .str)), some (.lst due), some (.int 1), x8, some (.lst (row.map .str)), some (.str a), x11, x12, x13, x14] (n + 2 + 2)) → mIn cl xq de1 [none, some .st, x2, some (.lst (nm.map .str)), some (.int m), some (.lst (rest.map .str)), some (.lst due), some (.int 1), x8, some (.lst (row.map .str)), some (.str a), x11, x12, x13, x14] (n + 2) := fun de1 x8 x11 x13 x14 h => T5_inner cl T tl hnm xq de1 _ _ _ _ _ _ _ (n + 2) (by omega) h
  refine s1 _ fun x8 x11 x13 x14 => ?_
  refine s2 _ x8 x11 x13 x14 fun x8 x11 x13 x14 => ?_
  have s3 : mEnd cl xq de [none, some .st, x2, some (.lst (nm.map .str)), some (.int m), some (.lst (rest.map .str)), some (.lst due), some (.int 1), x8, some (.lst (row.map .str)), some (.str a), x11, x12, x13, x14] (n + 2 + 2) := T5_end cl T xq de _ _ _ _ _ _ _ _ (fun w8 => q _ _ _ _ _)
  exact s3
theorem T5_turn (cl : Str → Addr) (xq : XQ) (de : DE) (x2 x3 x4 x5 x6 x7 x8 x9 x10 x11 x12 x13 x14 : Option D) (n : Nat) (hn : n < 2 ^ 16)
    (q : ∀ x3 x4 x5 x6 x7 x8 x9 x10 x11 x12 x13 x14 n', n' ≤ n + 100 → de.nx [none, some .st, x2, x3, x4, x5, x6, x7, x8, x9, x10, x11, x12, x13, x14] n') :
    m_turn cl xq de [none, some .st, x2, x3, x4, x5, x6, x7, x8, x9, x10, x11, x12, x13, x14] n := by
  -- the names
  refine ⟨.st, rfl, .st, rfl, rfl, 5, rfl, by decide, by decide, by omega, fun r r0 r1 => ?_⟩
  obtain ⟨j, rfl⟩ : ∃ j : Nat, r = j := ⟨r.toNat, by omega⟩
  have hj : j < 5 := by omega
  have ej : ((2 + j : Nat) : Int) = 2 + (j : Int) := by omega
  refine ⟨.int ((2 + j : Nat) : Int), by rw [ej]; rfl, rfl, 2 + j, rfl, by omega, fun ys hp => ?_⟩
  obtain ⟨nm, hnm⟩ : ∃ nm, nm = ys.take (2 + j) := ⟨_, rfl⟩
  rw [← hnm]
  have yl : ys.length = 16 := hp.length_eq
  have nl : nm.length = 2 + j := by rw [hnm, List.length_take, yl]; omega
  have ng : ∀ x ∈ nm, x ∈ NAMES := fun x hx => hp.subset (List.mem_of_mem_take (hnm ▸ hx))
  have nnd : nm.Nodup := by
    have h1 : ys.Nodup := hp.nodup_iff.mpr (by decide +kernel)
    rw [hnm]
    exact h1.sublist (List.take_sublist _ _)
  obtain ⟨a, b, tl, hab⟩ : ∃ a b tl, nm = a :: b :: tl := by
    match nm, nl with
    | [], h => simp at h; omega
    | [_], h => simp at h; omega
    | a :: b :: tl, _ => exact ⟨a, b, tl, rfl⟩
  have ha : a ∈ nm := by rw [hab]; exact List.mem_cons_self
  have hb : b ∈ nm := by rw [hab]; exact List.mem_cons_of_mem _ List.mem_cons_self
  -- the most
  refine ⟨.st, rfl, 3, rfl, 999999999, rfl, .st, rfl, rfl, 100, rfl, by decide, by decide, by omega, fun r2 _ _ => ?_⟩
  refine ⟨show 7 ≤ 1000 by decide, rfl, _, rfl, show 0 < 7 by decide, show 7 ≤ 1000 by decide, by omega, fun xm hxm => ?_⟩
  obtain ⟨m, rfl⟩ : ∃ m : Int, xm = .int m := by
    have h : xm = .int 0 ∨ xm = .int 1 ∨ xm = .int 7 ∨ xm = .int (-3) ∨ xm = .int 999999999 ∨ xm = .int (-999999999) ∨ xm = .int r2 := by simpa using hxm
    rcases h with h | h | h | h | h | h | h <;> exact ⟨_, h⟩
  -- the row
  refine ⟨.st, rfl, .lst (nm.map .str), rfl, rfl, nm, rfl, by omega, by omega, fun row hsub => ?_⟩
  have hrow : ∀ x ∈ row, x ∈ nm := fun x hx => hsub.subset hx
  have rl : row.length ≤ 6 := by have := hsub.length_le; omega
  have e0 : dIdx (.lst (nm.map .str)) (.int 0) = some (.str a) := by rw [hab]; exact at_of (k := 0) (xs := a :: b :: tl) rfl
  refine ⟨.lst (nm.map .str), rfl, .str a, e0, show 2 ≤ 1000 by decide, _, rfl, .lst (row.map .str), [.str a], rfl, .str a, [], rfl, rfl, ?_⟩
  -- the rest
  have okn : ∀ x ∈ nm, PyData.strOk x = true := fun x hx => names_ok x (ng x hx)
  refine ⟨show 5 < 15 by decide, .lst (row.map .str), rfl, row.map .str, rfl, by rw [List.length_map]; unfold LIM; omega, ?_⟩
  refine lc_notA (okn a ha) ?h10 ?h12 row [] (fun x hx => okn x (hrow x hx)) ?_
  case h10 => rfl
  case h12 => exact (show 12 < 15 by decide)
  rw [List.nil_append]
  obtain ⟨rest, hrest⟩ : ∃ rest, rest = notA a row := ⟨_, rfl⟩
  rw [← hrest]
  have hrs : ∀ x ∈ rest, x ∈ nm := fun x hx => hrow x ((List.mem_filter.mp (show x ∈ row.filter _ from hrest ▸ hx)).1)
  have rl2 : rest.length ≤ 6 := by
    have : rest.length ≤ row.length := by rw [hrest]; exact List.length_filter_le _ _
    omega
  -- what is due
  refine ⟨show 6 < 15 by decide, .lst (row.map .str), rfl, .int m, rfl, rfl, row, m, rfl, by omega, ?_⟩
  refine ⟨rest.map .str, rfl, by rw [List.length_map]; unfold LIM; omega, ?_⟩
  refine lc_map (f := fun d => .tup [mDone a, .tup [.str "done", d], .int m]) _ _ (fun d hd Q' q' => ⟨.str a, rfl, show 2 ≤ 1000 by decide, d, rfl, show 2 ≤ 1000 by decide, .int m, rfl, show 3 ≤ 1000 by decide, q'⟩) ?_
  refine ⟨show 2 ≤ 1000 by decide, ?_⟩
  refine ⟨_, rfl, .lst (row.map .str), rfl, row.map .str, rfl, by rw [List.length_map]; unfold LIM; omega, ?_⟩
  refine lc_map (f := fun d => .tup [.str "clock", .tup [.str "done", d], .int m]) _ _ (fun d hd Q' q' => ⟨d, rfl, show 2 ≤ 1000 by decide, .int m, rfl, show 3 ≤ 1000 by decide, q'⟩) ?_
  refine ⟨show 2 < LIM by decide, ?_⟩
  have e1 : dIdx (.lst (nm.map .str)) (.int 1) = some (.str b) := by rw [hab]; exact at_of (k := 1) (xs := a :: b :: tl) rfl
  refine ⟨_, rfl, .str a, rfl, show 2 ≤ 1000 by decide, .lst (nm.map .str), rfl, .str b, e1, show 2 ≤ 1000 by decide, .int m, rfl, .int (0 - m), rfl, show 3 ≤ 1000 by decide, show 1 ≤ 1000 by decide, show 3 < LIM by decide, ?_⟩
  obtain ⟨due, hdue⟩ : ∃ due, due = [D.lst (togD m row), .lst (rest.map fun y => tgD m a y), .lst (row.map (rdD m)), .lst [bhD m a b]] := ⟨_, rfl⟩
  have T : Turn5 nm row rest a b m due := ⟨ng, nnd, by omega, ha, hb, hrow, rl, hrs, rl2, hdue⟩
  have ed : [D.lst (togD m row), .lst ([] ++ (rest.map D.str).map fun d => .tup [mDone a, .tup [.str "done", d], .int m])] ++ [.lst ([] ++ (row.map D.str).map fun d => .tup [.str "clock", .tup [.str "done", d], .int m])] ++ [.lst [.tup [.tup [.str "start", .str a], .tup [.str "done", .str b], .int (0 - m)]]] = due := by
    rw [hdue, List.map_map, List.map_map]
    rfl
  rw [ed]
  exact T5_loop cl T tl hab xq de x2 x7 x8 x11 x12 x13 x14 _ (by omega) (fun x7 x8 x11 x13 x14 => q _ _ _ _ _ _ _ _ _ _ _ _ _ (by omega))
theorem M_law (cl : Str → Addr) : m_law cl (fun _ _ => False) { nx := fun _ _ => False, rt := fun d _ => d = .bl true } (none :: some .st :: List.replicate 13 none) 0 := by
  rw [m_law_eq]
  refine ⟨4, rfl, by decide, by decide, ?_⟩
  refine T5_turn cl _ _ _ _ _ _ _ _ _ _ _ _ _ _ _ 0 (by decide) (fun x3 x4 x5 x6 x7 x8 x9 x10 x11 x12 x13 x14 n1 h1 => ?_)
  refine T5_turn cl _ _ _ _ _ _ _ _ _ _ _ _ _ _ _ n1 (by omega) (fun x3 x4 x5 x6 x7 x8 x9 x10 x11 x12 x13 x14 n2 h2 => ?_)
  refine T5_turn cl _ _ _ _ _ _ _ _ _ _ _ _ _ _ _ n2 (by omega) (fun x3 x4 x5 x6 x7 x8 x9 x10 x11 x12 x13 x14 n3 h3 => ?_)
  refine T5_turn cl _ _ _ _ _ _ _ _ _ _ _ _ _ _ _ n3 (by omega) (fun x3 x4 x5 x6 x7 x8 x9 x10 x11 x12 x13 x14 n4 h4 => ?_)
  exact rfl
end DL
namespace K05
open PySem PySem.Spec PyProof.Rows L2 HX DL
def top (i : Nat) : Stmt := PySem.Challenge.pw_cookcalls_k05_wishes_made.main.body.getD i (.Pass ⟨0, 0, 0, 0⟩)
def mth (i j : Nat) : Stmt := (inCls (top i)).getD j (.Pass ⟨0, 0, 0, 0⟩)
abbrev k_is_list : Nat := 1
theorem sc_is_list : FnScope N_is_list ["thing"] (defScope (top 11)) := ⟨rfl, rfl, rfl, by decide +kernel, rfl, by decide +kernel, by decide +kernel⟩
theorem d_is_list {P : Program} {w : World} {K : PySem.W.Frag} {mg : Str → Option Value} {base : Heap} {cl : Str → Addr} (f_isinstance : mg "isinstance" = none) (f_list : mg "list" = none) (f_tuple : mg "tuple" = none) : Body P w K mg base N_is_list "is_list" (defScope (top 11)) 0 [] [] (defBody (top 11)) (m_is_list cl) := by
  have nd := sc_is_list.nd
  intro f cdv A outer s H E hr
  exact vss_one (vs_ret (ve_callB cd_isi rfl f_isinstance boot_isinstance (va_cons stbB (VE.b (ve_var (i := 0) (by decide) rfl (by first | exact .inl rfl | exact .inr (.inl rfl) | exact .inr (.inr rfl)))) (va_cons stbB (VE.b (ve_tup (va_cons stbE (ve_bty (T := "list") rfl f_list boot_list) (va_cons stbE (ve_bty (T := "tuple") rfl f_tuple boot_tuple) (va_nil))))) (va_nil)))))
abbrev k_is_integer : Nat := 1
theorem sc_is_integer : FnScope N_is_integer ["thing"] (defScope (top 12)) := ⟨rfl, rfl, rfl, by decide +kernel, rfl, by decide +kernel, by decide +kernel⟩
theorem d_is_integer {P : Program} {w : World} {K : PySem.W.Frag} {mg : Str → Option Value} {base : Heap} {cl : Str → Addr} (f_bool : mg "bool" = none) (f_int : mg "int" = none) (f_isinstance : mg "isinstance" = none) : Body P w K mg base N_is_integer "is_integer" (defScope (top 12)) 0 [] [] (defBody (top 12)) (m_is_integer cl) := by
  have nd := sc_is_integer.nd
  intro f cdv A outer s H E hr
  exact vss_one (vs_ret (ve_and (ve_callB cd_isi rfl f_isinstance boot_isinstance (va_cons stbB (VE.b (ve_var (i := 0) (by decide) rfl (by first | exact .inl rfl | exact .inr (.inl rfl) | exact .inr (.inr rfl)))) (va_cons stbB (VE.b (ve_bty (T := "int") rfl f_int boot_int)) (va_nil)))) (ve_one (ve_not (ve_callB cd_isi rfl f_isinstance boot_isinstance (va_cons stbB (VE.b (ve_var (i := 0) (by decide) rfl (by first | exact .inl rfl | exact .inr (.inl rfl) | exact .inr (.inr rfl)))) (va_cons stbB (VE.b (ve_bty (T := "bool") rfl f_bool boot_bool)) (va_nil))))))))
abbrev k_is_name : Nat := 1
theorem sc_is_name : FnScope N_is_name ["thing"] (defScope (top 13)) := ⟨rfl, rfl, rfl, by decide +kernel, rfl, by decide +kernel, by decide +kernel⟩
theorem d_is_name {P : Program} {w : World} {K : PySem.W.Frag} {mg : Str → Option Value} {base : Heap} {cl : Str → Addr} (c_CLOCK : ∃ t, mg "CLOCK" = some (.str "clock" t)) (c_LETTERS : ∃ t, mg "LETTERS" = some (.str "abcdefghijklmnopqrstuvwxyz" t)) (c_MOST_LETTERS : ∃ t, mg "MOST_LETTERS" = some (.int 8 t)) (f_all : mg "all" = none) (f_isinstance : mg "isinstance" = none) (f_len : mg "len" = none) (f_str : mg "str" = none) : Body P w K mg base N_is_name "is_name" (defScope (top 13)) 0 [] [] (defBody (top 13)) (m_is_name cl) := by
  have nd := sc_is_name.nd
  intro f cdv A outer s H E hr
  exact vss_cons (vs_if (VW.t (vw_or (vt_not (vt_val (ve_callB cd_isi rfl f_isinstance boot_isinstance (va_cons stbB (VE.b (ve_var (i := 0) (by decide) rfl (by first | exact .inl rfl | exact .inr (.inl rfl) | exact .inr (.inr rfl)))) (va_cons stbB (VE.b (ve_bty (T := "str") rfl f_str boot_str)) (va_nil)))))) (vw_or (vt_cmp (od_eq (Room.u64 hr)) (VE.b (ve_var (i := 0) (by decide) rfl (by first | exact .inl rfl | exact .inr (.inl rfl) | exact .inr (.inr rfl)))) (VE.b (ve_gstr rfl c_CLOCK)) (nomark _)) (vw_or1 (vt_not (vt_chain od_le od_le (VE.b (ve_int)) (VE.b (ve_callB cd_len rfl f_len boot_len (va_cons stbB (VE.b (ve_var (i := 0) (by decide) rfl (by first | exact .inl rfl | exact .inr (.inl rfl) | exact .inr (.inr rfl)))) (va_nil)))) (VE.b (ve_gint rfl c_MOST_LETTERS)))))))) (vss_one (vs_ret (ve_bl))) (vss_nil)) (vss_one (vs_ret (ve_callB (cd_all rfl) rfl f_all boot_all (va_cons stbB (VE.b (VF.ve (xf_lc rfl rfl nd (VIs.vi (vi_seq (ve_var (i := 0) (by decide) rfl (by first | exact .inl rfl | exact .inr (.inl rfl) | exact .inr (.inr rfl))))) (blkOk_by (own := [("sign", 1)]) (N := N_is_name) (sc := defScope (top 13)) (by decide +kernel)) (by decide) (by decide) (fun c => vg_name (i := 1) (by decide) nd rfl (by first | exact .inl rfl | exact .inr rfl)) (fun c => vts_nil) (fun c => ve_cmp (od_in (Room.u65 hr)) (VE.b (ve_var (i := 1) (by decide) rfl (by first | exact .inl rfl | exact .inr (.inl rfl) | exact .inr (.inr rfl)))) (VE.b (ve_gstr rfl c_LETTERS)) rfl)))) (va_nil)))))
abbrev k_is_among : Nat := 1
theorem sc_is_among : FnScope N_is_among ["thing", "names"] (defScope (top 14)) := ⟨rfl, rfl, rfl, by decide +kernel, rfl, by decide +kernel, by decide +kernel⟩
theorem d_is_among {P : Program} {w : World} {K : PySem.W.Frag} {mg : Str → Option Value} {base : Heap} {cl : Str → Addr} (f_isinstance : mg "isinstance" = none) (f_str : mg "str" = none) : Body P w K mg base N_is_among "is_among" (defScope (top 14)) 0 [] [] (defBody (top 14)) (m_is_among cl) := by
  have nd := sc_is_among.nd
  intro f cdv A outer s H E hr
  exact vss_one (vs_ret (ve_and (ve_callB cd_isi rfl f_isinstance boot_isinstance (va_cons stbB (VE.b (ve_var (i := 0) (by decide) rfl (by first | exact .inl rfl | exact .inr (.inl rfl) | exact .inr (.inr rfl)))) (va_cons stbB (VE.b (ve_bty (T := "str") rfl f_str boot_str)) (va_nil)))) (ve_one (ve_cmp (od_in (Room.u65 hr)) (VE.b (ve_var (i := 0) (by decide) rfl (by first | exact .inl rfl | exact .inr (.inl rfl) | exact .inr (.inr rfl)))) (VE.b (ve_var (i := 1) (by decide) rfl (by first | exact .inl rfl | exact .inr (.inl rfl) | exact .inr (.inr rfl)))) rfl))))
abbrev k_frozen : Nat := 4
theorem sc_frozen : FnScope N_frozen ["thing"] (defScope (top 15)) := ⟨rfl, rfl, rfl, by decide +kernel, rfl, by decide +kernel, by decide +kernel⟩
theorem d_frozen {P : Program} {w : World} {K : PySem.W.Frag} {mg : Str → Option Value} {base : Heap} {cl : Str → Addr} {kk : Nat} {sp : FSp} (hkk : 1 ≤ kk) (G_is_list : GFn P w K mg base "is_list" k_is_list ["thing"] (lift K 1 (sp_is_list cl))) (G_self : GFn P w K mg base "frozen" kk ["thing"] (lift K 1 sp)) (f_tuple : mg "tuple" = none) : Body P w K mg base N_frozen "frozen" (defScope (top 15)) kk [] [] (defBody (top 15)) (m_frozen cl sp) := by
  have nd := sc_frozen.nd
  intro f cdv A outer s H E hr
  exact vss_one (vs_ret (ve_ifExp (vt_val (ve_g rfl G_is_list hr (Nat.le_trans (by decide) hkk) rfl (va_cons stbE (ve_var (i := 0) (by decide) rfl (by first | exact .inl rfl | exact .inr (.inl rfl) | exact .inr (.inr rfl))) (va_nil)))) (ve_callTy cd_tuple rfl f_tuple boot_tuple (va_cons stbB (VE.b (VF.ve (xf_lc rfl rfl nd (VIs.vi (vi_seq (ve_var (i := 0) (by decide) rfl (by first | exact .inl rfl | exact .inr (.inl rfl) | exact .inr (.inr rfl))))) (blkOk_by (own := [("one", 1)]) (N := N_frozen) (sc := defScope (top 15)) (by decide +kernel)) (by decide) (by decide) (fun c => vg_name (i := 1) (by decide) nd rfl (by first | exact .inl rfl | exact .inr rfl)) (fun c => vts_nil) (fun c => ve_g rfl G_self hr (Nat.le_refl _) rfl (va_cons stbE (ve_var (i := 1) (by decide) rfl (by first | exact .inl rfl | exact .inr (.inl rfl) | exact .inr (.inr rfl))) (va_nil)))))) (va_nil))) (ve_var (i := 0) (by decide) rfl (by first | exact .inl rfl | exact .inr (.inl rfl) | exact .inr (.inr rfl)))))
abbrev k_rising : Nat := 1
theorem sc_rising : FnScope N_rising ["things"] (defScope (top 16)) := ⟨rfl, rfl, rfl, by decide +kernel, rfl, by decide +kernel, by decide +kernel⟩
theorem d_rising {P : Program} {w : World} {K : PySem.W.Frag} {mg : Str → Option Value} {base : Heap} {cl : Str → Addr} (f_len : mg "len" = none) : Body P w K mg base N_rising "rising" (defScope (top 16)) 0 [] [1] (defBody (top 16)) (m_rising cl) := by
  have nd := sc_rising.nd
  intro f cdv A outer s H E hr
  exact vss_cons (vs_setF (i := 1) (by decide) (by decide) nd rfl (by first | exact .inl rfl | exact .inr rfl) (vf_lst (va_nil))) (vss_cons (vs_for PassesOwn.never rfl (vi_seq (ve_var (i := 0) (by decide) rfl (by first | exact .inl rfl | exact .inr (.inl rfl) | exact .inr (.inr rfl)))) (vg_name (i := 2) (by decide) nd rfl (by first | exact .inl rfl | exact .inr rfl)) (vss_one (vs_insert (i := 1) (by decide) rfl (by first | exact .inl rfl | exact .inr (.inl rfl) | exact .inr (.inr rfl)) (va_cons stbE (ve_callB cd_len rfl f_len boot_len (va_cons stbB (VE.b (VF.ve (xf_lc rfl rfl nd (vi_ownS (i := 1) rfl (by decide) rfl (by first | exact .inl rfl | exact .inr (.inl rfl) | exact .inr (.inr rfl))) (blkOk_by (own := [("one", 3)]) (N := N_rising) (sc := defScope (top 16)) (by decide +kernel)) (by decide) (by decide) (fun c => vg_name (i := 3) (by decide) nd rfl (by first | exact .inl rfl | exact .inr rfl)) (fun c => vts_one (vt_cmp od_le (VE.b (ve_var (i := 3) (by decide) rfl (by first | exact .inl rfl | exact .inr (.inl rfl) | exact .inr (.inr rfl)))) (VE.b (ve_var (i := 2) (by decide) rfl (by first | exact .inl rfl | exact .inr (.inl rfl) | exact .inr (.inr rfl)))) (nomark _))) (fun c => ve_var (i := 3) (by decide) rfl (by first | exact .inl rfl | exact .inr (.inl rfl) | exact .inr (.inr rfl)))))) (va_nil))) (va_cons stbE (ve_var (i := 2) (by decide) rfl (by first | exact .inl rfl | exact .inr (.inl rfl) | exact .inr (.inr rfl))) (va_nil)))))) (vss_one (vs_retO (i := 1) (by decide) rfl (by first | exact .inl rfl | exact .inr (.inl rfl) | exact .inr (.inr rfl)))))
abbrev k_is_moment : Nat := 2
theorem sc_is_moment : FnScope N_is_moment ["thing", "names"] (defScope (top 17)) := ⟨rfl, rfl, rfl, by decide +kernel, rfl, by decide +kernel, by decide +kernel⟩
theorem d_is_moment {P : Program} {w : World} {K : PySem.W.Frag} {mg : Str → Option Value} {base : Heap} {cl : Str → Addr} (G_is_among : GFn P w K mg base "is_among" k_is_among ["thing", "names"] (lift K 2 (sp_is_among cl))) (G_is_list : GFn P w K mg base "is_list" k_is_list ["thing"] (lift K 1 (sp_is_list cl))) (c_CLOCK : ∃ t, mg "CLOCK" = some (.str "clock" t)) (f_isinstance : mg "isinstance" = none) (f_len : mg "len" = none) (f_str : mg "str" = none) : Body P w K mg base N_is_moment "is_moment" (defScope (top 17)) 1 [] [] (defBody (top 17)) (m_is_moment cl) := by
  have nd := sc_is_moment.nd
  intro f cdv A outer s H E hr
  exact vss_cons (vs_if (vt_not (vt_val (ve_g rfl G_is_list hr (by decide) rfl (va_cons stbE (ve_var (i := 0) (by decide) rfl (by first | exact .inl rfl | exact .inr (.inl rfl) | exact .inr (.inr rfl))) (va_nil))))) (vss_one (vs_ret (ve_and (ve_callB cd_isi rfl f_isinstance boot_isinstance (va_cons stbB (VE.b (ve_var (i := 0) (by decide) rfl (by first | exact .inl rfl | exact .inr (.inl rfl) | exact .inr (.inr rfl)))) (va_cons stbB (VE.b (ve_bty (T := "str") rfl f_str boot_str)) (va_nil)))) (ve_one (ve_cmp (od_eq (Room.u64 hr)) (VE.b (ve_var (i := 0) (by decide) rfl (by first | exact .inl rfl | exact .inr (.inl rfl) | exact .inr (.inr rfl)))) (VE.b (ve_gstr rfl c_CLOCK)) (nomark _)))))) (vss_nil)) (vss_one (vs_ret (ve_and (ve_cmp (od_eq (Room.u64 hr)) (VE.b (ve_callB cd_len rfl f_len boot_len (va_cons stbB (VE.b (ve_var (i := 0) (by decide) rfl (by first | exact .inl rfl | exact .inr (.inl rfl) | exact .inr (.inr rfl)))) (va_nil)))) (VE.b (ve_int)) (nomark _)) (ve_and (ve_g rfl G_is_among hr (by decide) rfl (va_cons stbE (ve_sub (Room.u hr) (VE.b (ve_var (i := 0) (by decide) rfl (by first | exact .inl rfl | exact .inr (.inl rfl) | exact .inr (.inr rfl)))) (VE.b (ve_int)) (fun _ _ => rfl)) (va_cons stbE (ve_tup (va_cons stbE (ve_str) (va_cons stbE (ve_str) (va_nil)))) (va_nil)))) (ve_one (ve_g rfl G_is_among hr (by decide) rfl (va_cons stbE (ve_sub (Room.u hr) (VE.b (ve_var (i := 0) (by decide) rfl (by first | exact .inl rfl | exact .inr (.inl rfl) | exact .inr (.inr rfl)))) (VE.b (ve_int)) (fun _ _ => rfl)) (va_cons stbE (ve_var (i := 1) (by decide) rfl (by first | exact .inl rfl | exact .inr (.inl rfl) | exact .inr (.inr rfl))) (va_nil)))))))))
abbrev k_is_wish : Nat := 3
theorem sc_is_wish : FnScope N_is_wish ["thing", "names"] (defScope (top 18)) := ⟨rfl, rfl, rfl, by decide +kernel, rfl, by decide +kernel, by decide +kernel⟩
theorem d_is_wish {P : Program} {w : World} {K : PySem.W.Frag} {mg : Str → Option Value} {base : Heap} {cl : Str → Addr} (G_is_integer : GFn P w K mg base "is_integer" k_is_integer ["thing"] (lift K 1 (sp_is_integer cl))) (G_is_list : GFn P w K mg base "is_list" k_is_list ["thing"] (lift K 1 (sp_is_list cl))) (G_is_moment : GFn P w K mg base "is_moment" k_is_moment ["thing", "names"] (lift K 2 (sp_is_moment cl))) (f_len : mg "len" = none) : Body P w K mg base N_is_wish "is_wish" (defScope (top 18)) 2 [] [] (defBody (top 18)) (m_is_wish cl) := by
  have nd := sc_is_wish.nd
  intro f cdv A outer s H E hr
  exact vss_cons (vs_if (VW.t (vw_or (vt_not (vt_val (ve_g rfl G_is_list hr (by decide) rfl (va_cons stbE (ve_var (i := 0) (by decide) rfl (by first | exact .inl rfl | exact .inr (.inl rfl) | exact .inr (.inr rfl))) (va_nil))))) (vw_or1 (vt_cmp (od_ne (Room.u64 hr)) (VE.b (ve_callB cd_len rfl f_len boot_len (va_cons stbB (VE.b (ve_var (i := 0) (by decide) rfl (by first | exact .inl rfl | exact .inr (.inl rfl) | exact .inr (.inr rfl)))) (va_nil)))) (VE.b (ve_int)) (nomark _))))) (vss_one (vs_ret (ve_bl))) (vss_nil)) (vss_one (vs_ret (ve_and (ve_g rfl G_is_moment hr (by decide) rfl (va_cons stbE (ve_sub (Room.u hr) (VE.b (ve_var (i := 0) (by decide) rfl (by first | exact .inl rfl | exact .inr (.inl rfl) | exact .inr (.inr rfl)))) (VE.b (ve_int)) (fun _ _ => rfl)) (va_cons stbE (ve_var (i := 1) (by decide) rfl (by first | exact .inl rfl | exact .inr (.inl rfl) | exact .inr (.inr rfl))) (va_nil)))) (ve_and (ve_g rfl G_is_moment hr (by decide) rfl (va_cons stbE (ve_sub (Room.u hr) (VE.b (ve_var (i := 0) (by decide) rfl (by first | exact .inl rfl | exact .inr (.inl rfl) | exact .inr (.inr rfl)))) (VE.b (ve_int)) (fun _ _ => rfl)) (va_cons stbE (ve_var (i := 1) (by decide) rfl (by first | exact .inl rfl | exact .inr (.inl rfl) | exact .inr (.inr rfl))) (va_nil)))) (ve_one (ve_g rfl G_is_integer hr (by decide) rfl (va_cons stbE (ve_sub (Room.u hr) (VE.b (ve_var (i := 0) (by decide) rfl (by first | exact .inl rfl | exact .inr (.inl rfl) | exact .inr (.inr rfl)))) (VE.b (ve_int)) (fun _ _ => rfl)) (va_nil))))))))
abbrev k_are_bounds : Nat := 2
theorem sc_are_bounds : FnScope N_are_bounds ["thing"] (defScope (top 20)) := ⟨rfl, rfl, rfl, by decide +kernel, rfl, by decide +kernel, by decide +kernel⟩
theorem d_are_bounds {P : Program} {w : World} {K : PySem.W.Frag} {mg : Str → Option Value} {base : Heap} {cl : Str → Addr} (G_is_integer : GFn P w K mg base "is_integer" k_is_integer ["thing"] (lift K 1 (sp_is_integer cl))) (G_is_list : GFn P w K mg base "is_list" k_is_list ["thing"] (lift K 1 (sp_is_list cl))) (f_len : mg "len" = none) : Body P w K mg base N_are_bounds "are_bounds" (defScope (top 20)) 1 [] [] (defBody (top 20)) (m_are_bounds cl) := by
  have nd := sc_are_bounds.nd
  intro f cdv A outer s H E hr
  exact vss_cons (vs_if (VW.t (vw_or (vt_not (vt_val (ve_g rfl G_is_list hr (by decide) rfl (va_cons stbE (ve_var (i := 0) (by decide) rfl (by first | exact .inl rfl | exact .inr (.inl rfl) | exact .inr (.inr rfl))) (va_nil))))) (vw_or (vt_cmp (od_ne (Room.u64 hr)) (VE.b (ve_callB cd_len rfl f_len boot_len (va_cons stbB (VE.b (ve_var (i := 0) (by decide) rfl (by first | exact .inl rfl | exact .inr (.inl rfl) | exact .inr (.inr rfl)))) (va_nil)))) (VE.b (ve_int)) (nomark _)) (vw_or (vt_not (vt_val (ve_g rfl G_is_integer hr (by decide) rfl (va_cons stbE (ve_sub (Room.u hr) (VE.b (ve_var (i := 0) (by decide) rfl (by first | exact .inl rfl | exact .inr (.inl rfl) | exact .inr (.inr rfl)))) (VE.b (ve_int)) (fun _ _ => rfl)) (va_nil))))) (vw_or1 (vt_not (vt_val (ve_g rfl G_is_integer hr (by decide) rfl (va_cons stbE (ve_sub (Room.u hr) (VE.b (ve_var (i := 0) (by decide) rfl (by first | exact .inl rfl | exact .inr (.inl rfl) | exact .inr (.inr rfl)))) (VE.b (ve_int)) (fun _ _ => rfl)) (va_nil)))))))))) (vss_one (vs_ret (ve_bl))) (vss_nil)) (vss_one (vs_ret (ve_chain od_le od_le (VE.b (ve_int)) (VE.b (ve_sub (Room.u hr) (VE.b (ve_var (i := 0) (by decide) rfl (by first | exact .inl rfl | exact .inr (.inl rfl) | exact .inr (.inr rfl)))) (VE.b (ve_int)) (fun _ _ => rfl))) (VE.b (ve_sub (Room.u hr) (VE.b (ve_var (i := 0) (by decide) rfl (by first | exact .inl rfl | exact .inr (.inl rfl) | exact .inr (.inr rfl)))) (VE.b (ve_int)) (fun _ _ => rfl))))))
abbrev k_is_station : Nat := 1
theorem sc_is_station : FnScope N_is_station ["thing", "names"] (defScope (top 21)) := ⟨rfl, rfl, rfl, by decide +kernel, rfl, by decide +kernel, by decide +kernel⟩
theorem d_is_station {P : Program} {w : World} {K : PySem.W.Frag} {mg : Str → Option Value} {base : Heap} {cl : Str → Addr}  : Body P w K mg base N_is_station "is_station" (defScope (top 21)) 0 [] [] (defBody (top 21)) (m_is_station cl) := by
  have nd := sc_is_station.nd
  intro f cdv A outer s H E hr
  exact vss_never
abbrev k_checked_wishes : Nat := 5
theorem sc_checked_wishes : FnScope N_checked_wishes ["wishes", "names"] (defScope (top 22)) := ⟨rfl, rfl, rfl, by decide +kernel, rfl, by decide +kernel, by decide +kernel⟩
theorem d_checked_wishes {P : Program} {w : World} {K : PySem.W.Frag} {mg : Str → Option Value} {base : Heap} {cl : Str → Addr} (G_frozen : GFn P w K mg base "frozen" k_frozen ["thing"] (lift K 1 (sp_frozen cl))) (G_is_list : GFn P w K mg base "is_list" k_is_list ["thing"] (lift K 1 (sp_is_list cl))) (G_is_wish : GFn P w K mg base "is_wish" k_is_wish ["thing", "names"] (lift K 2 (sp_is_wish cl))) (f_enumerate : mg "enumerate" = none) (f_tuple : mg "tuple" = none) : Body P w K mg base N_checked_wishes "checked_wishes" (defScope (top 22)) 4 [] [] (defBody (top 22)) (m_checked_wishes cl) := by
  have nd := sc_checked_wishes.nd
  intro f cdv A outer s H E hr
  exact vss_cons (vs_if (vt_not (vt_val (ve_g rfl G_is_list hr (by decide) rfl (va_cons stbE (ve_var (i := 0) (by decide) rfl (by first | exact .inl rfl | exact .inr (.inl rfl) | exact .inr (.inr rfl))) (va_nil))))) (vss_one (vs_never)) (vss_nil)) (vss_cons (vs_for PassesOwn.never rfl (vi_enum rfl f_enumerate (ve_var (i := 0) (by decide) rfl (by first | exact .inl rfl | exact .inr (.inl rfl) | exact .inr (.inr rfl)))) (vg_tup rfl (vgs_cons (vg_name (i := 2) (by decide) nd rfl (by first | exact .inl rfl | exact .inr rfl)) (vgs_cons (vg_name (i := 3) (by decide) nd rfl (by first | exact .inl rfl | exact .inr rfl)) (vgs_nil))) (fun _ _ _ h => ((gsok_cons gok_nm (gsok_cons gok_nm (gsok_nil))) _ _ _ h).1)) (vss_one (vs_if (vt_not (vt_val (ve_g rfl G_is_wish hr (by decide) rfl (va_cons stbE (ve_var (i := 3) (by decide) rfl (by first | exact .inl rfl | exact .inr (.inl rfl) | exact .inr (.inr rfl))) (va_cons stbE (ve_var (i := 1) (by decide) rfl (by first | exact .inl rfl | exact .inr (.inl rfl) | exact .inr (.inr rfl))) (va_nil)))))) (vss_one (vs_never)) (vss_nil)))) (vss_one (vs_ret (ve_callTy cd_tuple rfl f_tuple boot_tuple (va_cons stbB (VE.b (VF.ve (xf_lc rfl rfl nd (VIs.vi (vi_seq (ve_var (i := 0) (by decide) rfl (by first | exact .inl rfl | exact .inr (.inl rfl) | exact .inr (.inr rfl))))) (blkOk_by (own := [("wish", 3)]) (N := N_checked_wishes) (sc := defScope (top 22)) (by decide +kernel)) (by decide) (by decide) (fun c => vg_name (i := 3) (by decide) nd rfl (by first | exact .inl rfl | exact .inr rfl)) (fun c => vts_nil) (fun c => ve_g rfl G_frozen hr (by decide) rfl (va_cons stbE (ve_var (i := 3) (by decide) rfl (by first | exact .inl rfl | exact .inr (.inl rfl) | exact .inr (.inr rfl))) (va_nil)))))) (va_nil))))))
abbrev k_Meal___init__ : Nat := 6
theorem sc_Meal___init__ : FnScope N_Meal___init__ ["self", "dishes", "wishes", "stations"] (defScope (mth 23 0)) := ⟨rfl, rfl, rfl, by decide +kernel, rfl, by decide +kernel, by decide +kernel⟩
theorem d_Meal___init__ {P : Program} {w : World} {K : PySem.W.Frag} {mg : Str → Option Value} {base : Heap} {cl : Str → Addr} (G_are_bounds : GFn P w K mg base "are_bounds" k_are_bounds ["thing"] (lift K 1 (sp_are_bounds cl))) (G_checked_wishes : GFn P w K mg base "checked_wishes" k_checked_wishes ["wishes", "names"] (lift K 2 (sp_checked_wishes cl))) (G_is_list : GFn P w K mg base "is_list" k_is_list ["thing"] (lift K 1 (sp_is_list cl))) (G_is_name : GFn P w K mg base "is_name" k_is_name ["thing"] (lift K 1 (sp_is_name cl))) (G_is_station : GFn P w K mg base "is_station" k_is_station ["thing", "names"] (lift K 2 (sp_is_station cl))) (G_rising : GFn P w K mg base "rising" k_rising ["things"] (lift K 1 (sp_rising cl))) (cl_Meal : Cls K (cl "Meal")) (f_enumerate : mg "enumerate" = none) (f_list : mg "list" = none) (f_tuple : mg "tuple" = none) (na_Meal_bounds : NoAttr K (cl "Meal") "bounds") (na_Meal_station_row : NoAttr K (cl "Meal") "station_row") (na_Meal_wish_row : NoAttr K (cl "Meal") "wish_row") : Body P w K mg base N_Meal___init__ "Meal.__init__" (defScope (mth 23 0)) 5 [0] [0] (defBody (mth 23 0)) (m_Meal___init__ cl) := by
  have nd := sc_Meal___init__.nd
  intro f cdv A outer s H E hr
  exact vss_cons (vs_forD PassesOwn.never rfl (vd_items (vp_var (i := 1) (by decide) rfl (by first | exact .inl rfl | exact .inr (.inl rfl) | exact .inr (.inr rfl)))) (vg_tup rfl (vgs_cons (vg_name (i := 4) (by decide) nd rfl (by first | exact .inl rfl | exact .inr rfl)) (vgs_cons (vg_name (i := 5) (by decide) nd rfl (by first | exact .inl rfl | exact .inr rfl)) (vgs_nil))) (fun _ _ _ h => ((gsok_cons gok_nm (gsok_cons gok_nm (gsok_nil))) _ _ _ h).1)) (vss_one (vs_if (VW.t (vw_or (vt_not (vt_val (ve_g rfl G_is_name hr (by decide) rfl (va_cons stbE (ve_var (i := 4) (by decide) rfl (by first | exact .inl rfl | exact .inr (.inl rfl) | exact .inr (.inr rfl))) (va_nil))))) (vw_or1 (vt_not (vt_val (ve_g rfl G_are_bounds hr (by decide) rfl (va_cons stbE (ve_var (i := 5) (by decide) rfl (by first | exact .inl rfl | exact .inr (.inl rfl) | exact .inr (.inr rfl))) (va_nil)))))))) (vss_one (vs_never)) (vss_nil)))) (vss_cons (vs_fld (i := 0) (by decide) rfl (by first | exact .inl rfl | exact .inr (.inl rfl) | exact .inr (.inr rfl)) cl_Meal na_Meal_bounds (VF.ve (xf_dc rfl rfl nd (VIs.vi (vi_seq (ve_g rfl G_rising hr (by decide) rfl (va_cons stbE (VF.ve (vf_callTy (cf_list rfl) rfl f_list boot_list (va_cons stbB (VE.b (ve_var (i := 1) (by decide) rfl (by first | exact .inl rfl | exact .inr (.inl rfl) | exact .inr (.inr rfl)))) (va_nil)))) (va_nil))))) (blkOk_by (own := [("name", 4)]) (N := N_Meal___init__) (sc := defScope (mth 23 0)) (by decide +kernel)) (by decide) (by decide) (fun c => vg_name (i := 4) (by decide) nd rfl (by first | exact .inl rfl | exact .inr rfl)) (fun c => vts_nil) (fun c => ve_var (i := 4) (by decide) rfl (by first | exact .inl rfl | exact .inr (.inl rfl) | exact .inr (.inr rfl))) (fun c => ve_callTy cd_tuple rfl f_tuple boot_tuple (va_cons stbB (VE.b (ve_sub (Room.u hr) (VE.b (ve_var (i := 1) (by decide) rfl (by first | exact .inl rfl | exact .inr (.inl rfl) | exact .inr (.inr rfl)))) (VE.b (ve_var (i := 4) (by decide) rfl (by first | exact .inl rfl | exact .inr (.inl rfl) | exact .inr (.inr rfl)))) (fun _ _ => rfl))) (va_nil)))))) (vss_cons (vs_fld (i := 0) (by decide) rfl (by first | exact .inl rfl | exact .inr (.inl rfl) | exact .inr (.inr rfl)) cl_Meal na_Meal_wish_row (ve_g rfl G_checked_wishes hr (by decide) rfl (va_cons stbE (ve_var (i := 2) (by decide) rfl (by first | exact .inl rfl | exact .inr (.inl rfl) | exact .inr (.inr rfl))) (va_cons stbE (ve_fld cl_Meal na_Meal_bounds (vb_var (i := 0) (by decide) rfl (by first | exact .inl rfl | exact .inr (.inl rfl) | exact .inr (.inr rfl)))) (va_nil))))) (vss_cons (vs_if (vt_not (vt_val (ve_g rfl G_is_list hr (by decide) rfl (va_cons stbE (ve_var (i := 3) (by decide) rfl (by first | exact .inl rfl | exact .inr (.inl rfl) | exact .inr (.inr rfl))) (va_nil))))) (vss_one (vs_never)) (vss_nil)) (vss_cons (vs_for PassesOwn.never rfl (vi_enum rfl f_enumerate (ve_var (i := 3) (by decide) rfl (by first | exact .inl rfl | exact .inr (.inl rfl) | exact .inr (.inr rfl)))) (vg_tup rfl (vgs_cons (vg_name (i := 6) (by decide) nd rfl (by first | exact .inl rfl | exact .inr rfl)) (vgs_cons (vg_name (i := 7) (by decide) nd rfl (by first | exact .inl rfl | exact .inr rfl)) (vgs_nil))) (fun _ _ _ h => ((gsok_cons gok_nm (gsok_cons gok_nm (gsok_nil))) _ _ _ h).1)) (vss_one (vs_if (vt_not (vt_val (ve_g rfl G_is_station hr (by decide) rfl (va_cons stbE (ve_var (i := 7) (by decide) rfl (by first | exact .inl rfl | exact .inr (.inl rfl) | exact .inr (.inr rfl))) (va_cons stbE (ve_fld cl_Meal na_Meal_bounds (vb_var (i := 0) (by decide) rfl (by first | exact .inl rfl | exact .inr (.inl rfl) | exact .inr (.inr rfl)))) (va_nil)))))) (vss_one (vs_never)) (vss_nil)))) (vss_one (vs_fld (i := 0) (by decide) rfl (by first | exact .inl rfl | exact .inr (.inl rfl) | exact .inr (.inr rfl)) cl_Meal na_Meal_station_row (ve_callTy cd_tuple rfl f_tuple boot_tuple (va_cons stbB (VE.b (VF.ve (xf_lc rfl rfl nd (VIs.vi (vi_seq (ve_var (i := 3) (by decide) rfl (by first | exact .inl rfl | exact .inr (.inl rfl) | exact .inr (.inr rfl))))) (blkOk_by (own := [("station", 7)]) (N := N_Meal___init__) (sc := defScope (mth 23 0)) (by decide +kernel)) (by decide) (by decide) (fun c => vg_name (i := 7) (by decide) nd rfl (by first | exact .inl rfl | exact .inr rfl)) (fun c => vts_nil) (fun c => ve_callTy cd_tuple rfl f_tuple boot_tuple (va_cons stbB (VE.b (ve_var (i := 7) (by decide) rfl (by first | exact .inl rfl | exact .inr (.inl rfl) | exact .inr (.inr rfl)))) (va_nil)))))) (va_nil)))))))))
abbrev k_Meal_wishes : Nat := 1
theorem sc_Meal_wishes : FnScope N_Meal_wishes ["self"] (defScope (mth 23 2)) := ⟨rfl, rfl, rfl, by decide +kernel, rfl, by decide +kernel, by decide +kernel⟩
theorem d_Meal_wishes {P : Program} {w : World} {K : PySem.W.Frag} {mg : Str → Option Value} {base : Heap} {cl : Str → Addr} (cl_Meal : Cls K (cl "Meal")) (f_list : mg "list" = none) (na_Meal_wish_row : NoAttr K (cl "Meal") "wish_row") : Body P w K mg base N_Meal_wishes "Meal.wishes" (defScope (mth 23 2)) 0 [] [] (defBody (mth 23 2)) (m_Meal_wishes cl) := by
  have nd := sc_Meal_wishes.nd
  intro f cdv A outer s H E hr
  exact vss_one (vs_ret (VF.ve (vf_callTy (cf_list rfl) rfl f_list boot_list (va_cons stbB (VE.b (ve_fld cl_Meal na_Meal_wish_row (VE.b (ve_var (i := 0) (by decide) rfl (by first | exact .inl rfl | exact .inr (.inl rfl) | exact .inr (.inr rfl)))))) (va_nil)))))
abbrev k_together : Nat := 1
theorem sc_together : FnScope N_together ["names", "most"] (defScope (top 24)) := ⟨rfl, rfl, rfl, by decide +kernel, rfl, by decide +kernel, by decide +kernel⟩
theorem d_together {P : Program} {w : World} {K : PySem.W.Frag} {mg : Str → Option Value} {base : Heap} {cl : Str → Addr} (f_enumerate : mg "enumerate" = none) : BodyF P w K mg base N_together "together" (defScope (top 24)) 0 (defBody (top 24)) (m_together cl) := by
  have nd := sc_together.nd
  intro f cdv A outer s H E hr
  exact vssF_cons (vs_setF (i := 2) (by decide) (by decide) nd rfl (by first | exact .inl rfl | exact .inr rfl) (vf_lst (va_nil))) (vssF_cons (vs_for PassesOwn.never rfl (vi_enum rfl f_enumerate (ve_var (i := 0) (by decide) rfl (by first | exact .inl rfl | exact .inr (.inl rfl) | exact .inr (.inr rfl)))) (vg_tup rfl (vgs_cons (vg_name (i := 3) (by decide) nd rfl (by first | exact .inl rfl | exact .inr rfl)) (vgs_cons (vg_name (i := 4) (by decide) nd rfl (by first | exact .inl rfl | exact .inr rfl)) (vgs_nil))) (fun _ _ _ h => ((gsok_cons gok_nm (gsok_cons gok_nm (gsok_nil))) _ _ _ h).1)) (vss_one (vs_for PassesOwn.never rfl (vi_seq (ve_slice (VE.b (ve_var (i := 0) (by decide) rfl (by first | exact .inl rfl | exact .inr (.inl rfl) | exact .inr (.inr rfl)))) (vo_some (VE.b (ve_bin od_add (VE.b (ve_var (i := 3) (by decide) rfl (by first | exact .inl rfl | exact .inr (.inl rfl) | exact .inr (.inr rfl)))) (VE.b (ve_int))))) (vo_none))) (vg_name (i := 5) (by decide) nd rfl (by first | exact .inl rfl | exact .inr rfl)) (vss_one (vs_extend (i := 2) (by decide) rfl (by first | exact .inl rfl | exact .inr (.inl rfl) | exact .inr (.inr rfl)) (VE.b (VF.ve (vf_lst (va_cons stbE (ve_tup (va_cons stbE (ve_tup (va_cons stbE (ve_str) (va_cons stbE (ve_var (i := 4) (by decide) rfl (by first | exact .inl rfl | exact .inr (.inl rfl) | exact .inr (.inr rfl))) (va_nil)))) (va_cons stbE (ve_tup (va_cons stbE (ve_str) (va_cons stbE (ve_var (i := 5) (by decide) rfl (by first | exact .inl rfl | exact .inr (.inl rfl) | exact .inr (.inr rfl))) (va_nil)))) (va_cons stbE (ve_var (i := 1) (by decide) rfl (by first | exact .inl rfl | exact .inr (.inl rfl) | exact .inr (.inr rfl))) (va_nil))))) (va_cons stbE (ve_tup (va_cons stbE (ve_tup (va_cons stbE (ve_str) (va_cons stbE (ve_var (i := 5) (by decide) rfl (by first | exact .inl rfl | exact .inr (.inl rfl) | exact .inr (.inr rfl))) (va_nil)))) (va_cons stbE (ve_tup (va_cons stbE (ve_str) (va_cons stbE (ve_var (i := 4) (by decide) rfl (by first | exact .inl rfl | exact .inr (.inl rfl) | exact .inr (.inr rfl))) (va_nil)))) (va_cons stbE (ve_var (i := 1) (by decide) rfl (by first | exact .inl rfl | exact .inr (.inl rfl) | exact .inr (.inr rfl))) (va_nil))))) (va_nil))))))))))) (vssF_retO (i := 2) (by decide) rfl (by first | exact .inl rfl | exact .inr (.inl rfl) | exact .inr (.inr rfl))))
abbrev k_keeping : Nat := 1
theorem sc_keeping : FnScope N_keeping ["name", "others", "most"] (defScope (top 25)) := ⟨rfl, rfl, rfl, by decide +kernel, rfl, by decide +kernel, by decide +kernel⟩
theorem d_keeping {P : Program} {w : World} {K : PySem.W.Frag} {mg : Str → Option Value} {base : Heap} {cl : Str → Addr}  : BodyF P w K mg base N_keeping "keeping" (defScope (top 25)) 0 (defBody (top 25)) (m_keeping cl) := by
  have nd := sc_keeping.nd
  intro f cdv A outer s H E hr
  exact vssF_ret (xf_lc rfl rfl nd (VIs.vi (vi_seq (ve_var (i := 1) (by decide) rfl (by first | exact .inl rfl | exact .inr (.inl rfl) | exact .inr (.inr rfl))))) (blkOk_by (own := [("other", 3)]) (N := N_keeping) (sc := defScope (top 25)) (by decide +kernel)) (by decide) (by decide) (fun c => vg_name (i := 3) (by decide) nd rfl (by first | exact .inl rfl | exact .inr rfl)) (fun c => vts_nil) (fun c => ve_tup (va_cons stbE (ve_tup (va_cons stbE (ve_str) (va_cons stbE (ve_var (i := 0) (by decide) rfl (by first | exact .inl rfl | exact .inr (.inl rfl) | exact .inr (.inr rfl))) (va_nil)))) (va_cons stbE (ve_tup (va_cons stbE (ve_str) (va_cons stbE (ve_var (i := 3) (by decide) rfl (by first | exact .inl rfl | exact .inr (.inl rfl) | exact .inr (.inr rfl))) (va_nil)))) (va_cons stbE (ve_var (i := 2) (by decide) rfl (by first | exact .inl rfl | exact .inr (.inl rfl) | exact .inr (.inr rfl))) (va_nil))))))
abbrev k_ready_by : Nat := 1
theorem sc_ready_by : FnScope N_ready_by ["names", "minute"] (defScope (top 26)) := ⟨rfl, rfl, rfl, by decide +kernel, rfl, by decide +kernel, by decide +kernel⟩
theorem d_ready_by {P : Program} {w : World} {K : PySem.W.Frag} {mg : Str → Option Value} {base : Heap} {cl : Str → Addr} (c_CLOCK : ∃ t, mg "CLOCK" = some (.str "clock" t)) : BodyF P w K mg base N_ready_by "ready_by" (defScope (top 26)) 0 (defBody (top 26)) (m_ready_by cl) := by
  have nd := sc_ready_by.nd
  intro f cdv A outer s H E hr
  exact vssF_ret (xf_lc rfl rfl nd (VIs.vi (vi_seq (ve_var (i := 0) (by decide) rfl (by first | exact .inl rfl | exact .inr (.inl rfl) | exact .inr (.inr rfl))))) (blkOk_by (own := [("name", 2)]) (N := N_ready_by) (sc := defScope (top 26)) (by decide +kernel)) (by decide) (by decide) (fun c => vg_name (i := 2) (by decide) nd rfl (by first | exact .inl rfl | exact .inr rfl)) (fun c => vts_nil) (fun c => ve_tup (va_cons stbE (ve_gstr rfl c_CLOCK) (va_cons stbE (ve_tup (va_cons stbE (ve_str) (va_cons stbE (ve_var (i := 2) (by decide) rfl (by first | exact .inl rfl | exact .inr (.inl rfl) | exact .inr (.inr rfl))) (va_nil)))) (va_cons stbE (ve_var (i := 1) (by decide) rfl (by first | exact .inl rfl | exact .inr (.inl rfl) | exact .inr (.inr rfl))) (va_nil))))))
abbrev k_behind : Nat := 1
theorem sc_behind : FnScope N_behind ["name", "other", "least"] (defScope (top 27)) := ⟨rfl, rfl, rfl, by decide +kernel, rfl, by decide +kernel, by decide +kernel⟩
theorem d_behind {P : Program} {w : World} {K : PySem.W.Frag} {mg : Str → Option Value} {base : Heap} {cl : Str → Addr}  : BodyF P w K mg base N_behind "behind" (defScope (top 27)) 0 (defBody (top 27)) (m_behind cl) := by
  have nd := sc_behind.nd
  intro f cdv A outer s H E hr
  exact vssF_ret (vf_lst (va_cons stbE (ve_tup (va_cons stbE (ve_tup (va_cons stbE (ve_str) (va_cons stbE (ve_var (i := 0) (by decide) rfl (by first | exact .inl rfl | exact .inr (.inl rfl) | exact .inr (.inr rfl))) (va_nil)))) (va_cons stbE (ve_tup (va_cons stbE (ve_str) (va_cons stbE (ve_var (i := 1) (by decide) rfl (by first | exact .inl rfl | exact .inr (.inl rfl) | exact .inr (.inr rfl))) (va_nil)))) (va_cons stbE (ve_bin od_sub (VE.b (ve_int)) (VE.b (ve_var (i := 2) (by decide) rfl (by first | exact .inl rfl | exact .inr (.inl rfl) | exact .inr (.inr rfl))))) (va_nil))))) (va_nil)))
abbrev k__law_take : Nat := 1
theorem sc__law_take : FnScope N__law_take ["_law_state", "_law_many"] (defScope (top 30)) := ⟨rfl, rfl, rfl, by decide +kernel, rfl, by decide +kernel, by decide +kernel⟩
theorem d__law_take {P : Program} {w : World} {K : PySem.W.Frag} {mg : Str → Option Value} {base : Heap} {cl : Str → Addr}  : Body P w K mg base N__law_take "_law_take" (defScope (top 30)) 0 [] [] (defBody (top 30)) (m__law_take cl) := by
  have nd := sc__law_take.nd
  intro f cdv A outer s H E hr
  exact vss_never
abbrev k__law_one : Nat := 2
theorem sc__law_one : FnScope N__law_one ["_law_state", "_law_things"] (defScope (top 31)) := ⟨rfl, rfl, rfl, by decide +kernel, rfl, by decide +kernel, by decide +kernel⟩
theorem d__law_one {P : Program} {w : World} {K : PySem.W.Frag} {mg : Str → Option Value} {base : Heap} {cl : Str → Addr} (G__law_take : GFn P w K mg base "_law_take" k__law_take ["_law_state", "_law_many"] (lift K 2 (sp__law_take cl))) (f_len : mg "len" = none) : Body P w K mg base N__law_one "_law_one" (defScope (top 31)) 1 [] [] (defBody (top 31)) (m__law_one cl) := by
  have nd := sc__law_one.nd
  intro f cdv A outer s H E hr
  exact vss_one (vs_ret (ve_sub (Room.u hr) (VE.b (ve_var (i := 1) (by decide) rfl (by first | exact .inl rfl | exact .inr (.inl rfl) | exact .inr (.inr rfl)))) (VE.b (ve_g rfl G__law_take hr (by decide) rfl (va_cons stbE (ve_var (i := 0) (by decide) rfl (by first | exact .inl rfl | exact .inr (.inl rfl) | exact .inr (.inr rfl))) (va_cons stbE (ve_callB cd_len rfl f_len boot_len (va_cons stbB (VE.b (ve_var (i := 1) (by decide) rfl (by first | exact .inl rfl | exact .inr (.inl rfl) | exact .inr (.inr rfl)))) (va_nil))) (va_nil))))) (fun _ _ => rfl)))
abbrev k__law_mix : Nat := 2
theorem sc__law_mix : FnScope N__law_mix ["_law_state", "_law_things"] (defScope (top 32)) := ⟨rfl, rfl, rfl, by decide +kernel, rfl, by decide +kernel, by decide +kernel⟩
theorem d__law_mix {P : Program} {w : World} {K : PySem.W.Frag} {mg : Str → Option Value} {base : Heap} {cl : Str → Addr} (G__law_take : GFn P w K mg base "_law_take" k__law_take ["_law_state", "_law_many"] (lift K 2 (sp__law_take cl))) (f_len : mg "len" = none) (f_list : mg "list" = none) : Body P w K mg base N__law_mix "_law_mix" (defScope (top 32)) 1 [] [3, 2] (defBody (top 32)) (m__law_mix cl) := by
  have nd := sc__law_mix.nd
  intro f cdv A outer s H E hr
  exact vss_cons (vs_parFF (i := 2) (j := 3) (by decide) (by decide) (by decide) (by decide) rfl nd rfl rfl (by decide) rfl rfl (vf_callTy (cf_list rfl) rfl f_list boot_list (va_cons stbB (VE.b (ve_var (i := 1) (by decide) rfl (by first | exact .inl rfl | exact .inr (.inl rfl) | exact .inr (.inr rfl)))) (va_nil))) (vf_lst (va_nil)) rfl) (vss_cons (vs_while PassesOwn.never (vt_cmp (od_ne (Room.u64 hr)) (vb_var (i := 2) (by decide) rfl (by first | exact .inl rfl | exact .inr (.inl rfl) | exact .inr (.inr rfl))) (VE.b (VF.ve (vf_lst (va_nil)))) (nomark _)) (vss_one (vs_appPop (i := 2) (j := 3) (by decide) (by decide) (by decide) rfl (by first | exact .inl rfl | exact .inr (.inl rfl) | exact .inr (.inr rfl)) rfl (by first | exact .inl rfl | exact .inr (.inl rfl) | exact .inr (.inr rfl)) (ve_g rfl G__law_take hr (by decide) rfl (va_cons stbE (ve_var (i := 0) (by decide) rfl (by first | exact .inl rfl | exact .inr (.inl rfl) | exact .inr (.inr rfl))) (va_cons stbE (ve_callB cd_len rfl f_len boot_len (va_cons stbB (vb_var (i := 2) (by decide) rfl (by first | exact .inl rfl | exact .inr (.inl rfl) | exact .inr (.inr rfl))) (va_nil))) (va_nil))))))) (vss_one (vs_retO (i := 3) (by decide) rfl (by first | exact .inl rfl | exact .inr (.inl rfl) | exact .inr (.inr rfl)))))
abbrev k__law_some : Nat := 2
theorem sc__law_some : FnScope N__law_some ["_law_state", "_law_things"] (defScope (top 33)) := ⟨rfl, rfl, rfl, by decide +kernel, rfl, by decide +kernel, by decide +kernel⟩
theorem d__law_some {P : Program} {w : World} {K : PySem.W.Frag} {mg : Str → Option Value} {base : Heap} {cl : Str → Addr} (G__law_take : GFn P w K mg base "_law_take" k__law_take ["_law_state", "_law_many"] (lift K 2 (sp__law_take cl))) : Body P w K mg base N__law_some "_law_some" (defScope (top 33)) 1 [] [] (defBody (top 33)) (m__law_some cl) := by
  have nd := sc__law_some.nd
  intro f cdv A outer s H E hr
  exact vss_one (vs_ret (VF.ve (xf_lc rfl rfl nd (VIs.vi (vi_seq (ve_var (i := 1) (by decide) rfl (by first | exact .inl rfl | exact .inr (.inl rfl) | exact .inr (.inr rfl))))) (blkOk_by (own := [("_law_thing", 2)]) (N := N__law_some) (sc := defScope (top 33)) (by decide +kernel)) (by decide) (by decide) (fun c => vg_name (i := 2) (by decide) nd rfl (by first | exact .inl rfl | exact .inr rfl)) (fun c => vts_one (vt_cmp (od_eq (Room.u64 hr)) (VE.b (ve_g rfl G__law_take hr (by decide) rfl (va_cons stbE (ve_var (i := 0) (by decide) rfl (by first | exact .inl rfl | exact .inr (.inl rfl) | exact .inr (.inr rfl))) (va_cons stbE (ve_int) (va_nil))))) (VE.b (ve_int)) (nomark _))) (fun c => ve_var (i := 2) (by decide) rfl (by first | exact .inl rfl | exact .inr (.inl rfl) | exact .inr (.inr rfl))))))
abbrev k__law_same : Nat := 6
theorem sc__law_same : FnScope N__law_same ["_law_found", "_law_due"] (defScope (top 34)) := ⟨rfl, rfl, rfl, by decide +kernel, rfl, by decide +kernel, by decide +kernel⟩
theorem d__law_same {P : Program} {w : World} {K : PySem.W.Frag} {mg : Str → Option Value} {base : Heap} {cl : Str → Addr} {kk : Nat} {sp : FSp} (hkk : 0 ≤ kk) (G_self : GFn P w K mg base "_law_same" kk ["_law_found", "_law_due"] (lift K 2 sp)) (f_all : mg "all" = none) (f_bool : mg "bool" = none) (f_int : mg "int" = none) (f_isinstance : mg "isinstance" = none) (f_len : mg "len" = none) (f_list : mg "list" = none) (f_tuple : mg "tuple" = none) (f_zip : mg "zip" = none) : Body P w K mg base N__law_same "_law_same" (defScope (top 34)) kk [] [] (defBody (top 34)) (m__law_same cl sp) := by
  have nd := sc__law_same.nd
  intro f cdv A outer s H E hr
  exact vss_cons (vs_if (vt_val (ve_callB cd_isi rfl f_isinstance boot_isinstance (va_cons stbB (VE.b (ve_var (i := 1) (by decide) rfl (by first | exact .inl rfl | exact .inr (.inl rfl) | exact .inr (.inr rfl)))) (va_cons stbB (VE.b (ve_tup (va_cons stbE (ve_bty (T := "list") rfl f_list boot_list) (va_cons stbE (ve_bty (T := "tuple") rfl f_tuple boot_tuple) (va_nil))))) (va_nil))))) (vss_cons (vs_if (VW.t (vw_or (vt_cmp (od_ne (Room.u64 hr)) (VE.b (ve_callB cd_isi rfl f_isinstance boot_isinstance (va_cons stbB (VE.b (ve_var (i := 0) (by decide) rfl (by first | exact .inl rfl | exact .inr (.inl rfl) | exact .inr (.inr rfl)))) (va_cons stbB (VE.b (ve_bty (T := "list") rfl f_list boot_list)) (va_nil))))) (VE.b (ve_callB cd_isi rfl f_isinstance boot_isinstance (va_cons stbB (VE.b (ve_var (i := 1) (by decide) rfl (by first | exact .inl rfl | exact .inr (.inl rfl) | exact .inr (.inr rfl)))) (va_cons stbB (VE.b (ve_bty (T := "list") rfl f_list boot_list)) (va_nil))))) (nomark _)) (vw_or1 (vt_cmp (od_ne (Room.u64 hr)) (VE.b (ve_callB cd_isi rfl f_isinstance boot_isinstance (va_cons stbB (VE.b (ve_var (i := 0) (by decide) rfl (by first | exact .inl rfl | exact .inr (.inl rfl) | exact .inr (.inr rfl)))) (va_cons stbB (VE.b (ve_bty (T := "tuple") rfl f_tuple boot_tuple)) (va_nil))))) (VE.b (ve_callB cd_isi rfl f_isinstance boot_isinstance (va_cons stbB (VE.b (ve_var (i := 1) (by decide) rfl (by first | exact .inl rfl | exact .inr (.inl rfl) | exact .inr (.inr rfl)))) (va_cons stbB (VE.b (ve_bty (T := "tuple") rfl f_tuple boot_tuple)) (va_nil))))) (nomark _))))) (vss_one (vs_ret (ve_bl))) (vss_nil)) (vss_one (vs_ret (ve_and (ve_cmp (od_eq (Room.u64 hr)) (VE.b (ve_callB cd_len rfl f_len boot_len (va_cons stbB (VE.b (ve_var (i := 0) (by decide) rfl (by first | exact .inl rfl | exact .inr (.inl rfl) | exact .inr (.inr rfl)))) (va_nil)))) (VE.b (ve_callB cd_len rfl f_len boot_len (va_cons stbB (VE.b (ve_var (i := 1) (by decide) rfl (by first | exact .inl rfl | exact .inr (.inl rfl) | exact .inr (.inr rfl)))) (va_nil)))) (nomark _)) (ve_one (ve_callB (cd_all rfl) rfl f_all boot_all (va_cons stbB (VE.b (VF.ve (xf_lc rfl rfl nd (VIs.vi (vi_zip rfl f_zip (ve_var (i := 0) (by decide) rfl (by first | exact .inl rfl | exact .inr (.inl rfl) | exact .inr (.inr rfl))) (ve_var (i := 1) (by decide) rfl (by first | exact .inl rfl | exact .inr (.inl rfl) | exact .inr (.inr rfl))))) (blkOk_by (own := [("_law_x", 2), ("_law_y", 3)]) (N := N__law_same) (sc := defScope (top 34)) (by decide +kernel)) (by decide) (by decide) (fun c => vg_tup rfl (vgs_cons (vg_name (i := 2) (by decide) nd rfl (by first | exact .inl rfl | exact .inr rfl)) (vgs_cons (vg_name (i := 3) (by decide) nd rfl (by first | exact .inl rfl | exact .inr rfl)) (vgs_nil))) (fun _ _ _ h => ((gsok_cons gok_nm (gsok_cons gok_nm (gsok_nil))) _ _ _ h).1)) (fun c => vts_nil) (fun c => ve_g rfl G_self hr (Nat.le_refl _) rfl (va_cons stbE (ve_var (i := 2) (by decide) rfl (by first | exact .inl rfl | exact .inr (.inl rfl) | exact .inr (.inr rfl))) (va_cons stbE (ve_var (i := 3) (by decide) rfl (by first | exact .inl rfl | exact .inr (.inl rfl) | exact .inr (.inr rfl))) (va_nil))))))) (va_nil)))))))) (vss_nil)) (vss_cons (vs_if (vt_val (ve_callB cd_isi rfl f_isinstance boot_isinstance (va_cons stbB (VE.b (ve_var (i := 1) (by decide) rfl (by first | exact .inl rfl | exact .inr (.inl rfl) | exact .inr (.inr rfl)))) (va_cons stbB (VE.b (ve_bty (T := "int") rfl f_int boot_int)) (va_nil))))) (vss_one (vs_ret (ve_and (ve_callB cd_isi rfl f_isinstance boot_isinstance (va_cons stbB (VE.b (ve_var (i := 0) (by decide) rfl (by first | exact .inl rfl | exact .inr (.inl rfl) | exact .inr (.inr rfl)))) (va_cons stbB (VE.b (ve_bty (T := "int") rfl f_int boot_int)) (va_nil)))) (ve_and (ve_cmp (od_eq (Room.u64 hr)) (VE.b (ve_callB cd_isi rfl f_isinstance boot_isinstance (va_cons stbB (VE.b (ve_var (i := 0) (by decide) rfl (by first | exact .inl rfl | exact .inr (.inl rfl) | exact .inr (.inr rfl)))) (va_cons stbB (VE.b (ve_bty (T := "bool") rfl f_bool boot_bool)) (va_nil))))) (VE.b (ve_callB cd_isi rfl f_isinstance boot_isinstance (va_cons stbB (VE.b (ve_var (i := 1) (by decide) rfl (by first | exact .inl rfl | exact .inr (.inl rfl) | exact .inr (.inr rfl)))) (va_cons stbB (VE.b (ve_bty (T := "bool") rfl f_bool boot_bool)) (va_nil))))) (nomark _)) (ve_one (ve_cmp (od_eq (Room.u64 hr)) (VE.b (ve_var (i := 0) (by decide) rfl (by first | exact .inl rfl | exact .inr (.inl rfl) | exact .inr (.inr rfl)))) (VE.b (ve_var (i := 1) (by decide) rfl (by first | exact .inl rfl | exact .inr (.inl rfl) | exact .inr (.inr rfl)))) (nomark _))))))) (vss_nil)) (vss_one (vs_ret (ve_and (ve_cmp od_is (VE.b (ve_callB cd_isi rfl f_isinstance boot_isinstance (va_cons stbB (VE.b (ve_var (i := 0) (by decide) rfl (by first | exact .inl rfl | exact .inr (.inl rfl) | exact .inr (.inr rfl)))) (va_cons stbB (VE.b (ve_tup (va_cons stbE (ve_bty (T := "int") rfl f_int boot_int) (va_cons stbE (ve_bty (T := "list") rfl f_list boot_list) (va_cons stbE (ve_bty (T := "tuple") rfl f_tuple boot_tuple) (va_nil)))))) (va_nil))))) (VE.b (ve_bl)) (nomark _)) (ve_one (ve_cmp (od_eq (Room.u64 hr)) (VE.b (ve_var (i := 0) (by decide) rfl (by first | exact .inl rfl | exact .inr (.inl rfl) | exact .inr (.inr rfl)))) (VE.b (ve_var (i := 1) (by decide) rfl (by first | exact .inl rfl | exact .inr (.inl rfl) | exact .inr (.inr rfl)))) (nomark _)))))))
abbrev k__law_names : Nat := 3
theorem sc__law_names : FnScope N__law_names ["_law_state", "_law_many"] (defScope (top 35)) := ⟨rfl, rfl, rfl, by decide +kernel, rfl, by decide +kernel, by decide +kernel⟩
theorem d__law_names {P : Program} {w : World} {K : PySem.W.Frag} {mg : Str → Option Value} {base : Heap} {cl : Str → Addr} (G__law_mix : GFn P w K mg base "_law_mix" k__law_mix ["_law_state", "_law_things"] (lift K 2 (sp__law_mix cl))) : Body P w K mg base N__law_names "_law_names" (defScope (top 35)) 2 [] [] (defBody (top 35)) (m__law_names cl) := by
  have nd := sc__law_names.nd
  intro f cdv A outer s H E hr
  exact vss_cons (vs_set (i := 2) (by decide) nd rfl (by first | exact .inl rfl | exact .inr rfl) (VF.ve (vf_lst (va_cons stbE (ve_str) (va_cons stbE (ve_str) (va_cons stbE (ve_str) (va_cons stbE (ve_str) (va_cons stbE (ve_str) (va_cons stbE (ve_str) (va_cons stbE (ve_str) (va_cons stbE (ve_str) (va_nil)))))))))))) (vss_one (vs_ret (ve_slice (VE.b (ve_g rfl G__law_mix hr (by decide) rfl (va_cons stbE (ve_var (i := 0) (by decide) rfl (by first | exact .inl rfl | exact .inr (.inl rfl) | exact .inr (.inr rfl))) (va_cons stbE (ve_bin od_add (VE.b (ve_var (i := 2) (by decide) rfl (by first | exact .inl rfl | exact .inr (.inl rfl) | exact .inr (.inr rfl)))) (VE.b (VF.ve (vf_lst (va_cons stbE (ve_str) (va_cons stbE (ve_str) (va_cons stbE (ve_str) (va_cons stbE (ve_str) (va_cons stbE (ve_str) (va_cons stbE (ve_str) (va_cons stbE (ve_str) (va_cons stbE (ve_str) (va_nil))))))))))))) (va_nil))))) (vo_none) (vo_some (VE.b (ve_var (i := 1) (by decide) rfl (by first | exact .inl rfl | exact .inr (.inl rfl) | exact .inr (.inr rfl))))))))
abbrev k__law_together : Nat := 1
theorem sc__law_together : FnScope N__law_together ["_law_names_here", "_law_most"] (defScope (top 36)) := ⟨rfl, rfl, rfl, by decide +kernel, rfl, by decide +kernel, by decide +kernel⟩
theorem d__law_together {P : Program} {w : World} {K : PySem.W.Frag} {mg : Str → Option Value} {base : Heap} {cl : Str → Addr} (f_len : mg "len" = none) (f_range : mg "range" = none) : Body P w K mg base N__law_together "_law_together" (defScope (top 36)) 0 [] [2] (defBody (top 36)) (m__law_together cl) := by
  have nd := sc__law_together.nd
  intro f cdv A outer s H E hr
  exact vss_cons (vs_setF (i := 2) (by decide) (by decide) nd rfl (by first | exact .inl rfl | exact .inr rfl) (vf_lst (va_nil))) (vss_cons (vs_for PassesOwn.never rfl (vi_range1 rfl f_range (VE.b (ve_callB cd_len rfl f_len boot_len (va_cons stbB (VE.b (ve_var (i := 0) (by decide) rfl (by first | exact .inl rfl | exact .inr (.inl rfl) | exact .inr (.inr rfl)))) (va_nil))))) (vg_name (i := 3) (by decide) nd rfl (by first | exact .inl rfl | exact .inr rfl)) (vss_one (vs_for PassesOwn.never rfl (vi_range2 rfl f_range (VE.b (ve_bin od_add (VE.b (ve_var (i := 3) (by decide) rfl (by first | exact .inl rfl | exact .inr (.inl rfl) | exact .inr (.inr rfl)))) (VE.b (ve_int)))) (VE.b (ve_callB cd_len rfl f_len boot_len (va_cons stbB (VE.b (ve_var (i := 0) (by decide) rfl (by first | exact .inl rfl | exact .inr (.inl rfl) | exact .inr (.inr rfl)))) (va_nil))))) (vg_name (i := 4) (by decide) nd rfl (by first | exact .inl rfl | exact .inr rfl)) (vss_cons (vs_append (i := 2) (by decide) rfl (by first | exact .inl rfl | exact .inr (.inl rfl) | exact .inr (.inr rfl)) (ve_tup (va_cons stbE (ve_tup (va_cons stbE (ve_str) (va_cons stbE (ve_sub (Room.u hr) (VE.b (ve_var (i := 0) (by decide) rfl (by first | exact .inl rfl | exact .inr (.inl rfl) | exact .inr (.inr rfl)))) (VE.b (ve_var (i := 3) (by decide) rfl (by first | exact .inl rfl | exact .inr (.inl rfl) | exact .inr (.inr rfl)))) (fun _ _ => rfl)) (va_nil)))) (va_cons stbE (ve_tup (va_cons stbE (ve_str) (va_cons stbE (ve_sub (Room.u hr) (VE.b (ve_var (i := 0) (by decide) rfl (by first | exact .inl rfl | exact .inr (.inl rfl) | exact .inr (.inr rfl)))) (VE.b (ve_var (i := 4) (by decide) rfl (by first | exact .inl rfl | exact .inr (.inl rfl) | exact .inr (.inr rfl)))) (fun _ _ => rfl)) (va_nil)))) (va_cons stbE (ve_var (i := 1) (by decide) rfl (by first | exact .inl rfl | exact .inr (.inl rfl) | exact .inr (.inr rfl))) (va_nil)))))) (vss_one (vs_append (i := 2) (by decide) rfl (by first | exact .inl rfl | exact .inr (.inl rfl) | exact .inr (.inr rfl)) (ve_tup (va_cons stbE (ve_tup (va_cons stbE (ve_str) (va_cons stbE (ve_sub (Room.u hr) (VE.b (ve_var (i := 0) (by decide) rfl (by first | exact .inl rfl | exact .inr (.inl rfl) | exact .inr (.inr rfl)))) (VE.b (ve_var (i := 4) (by decide) rfl (by first | exact .inl rfl | exact .inr (.inl rfl) | exact .inr (.inr rfl)))) (fun _ _ => rfl)) (va_nil)))) (va_cons stbE (ve_tup (va_cons stbE (ve_str) (va_cons stbE (ve_sub (Room.u hr) (VE.b (ve_var (i := 0) (by decide) rfl (by first | exact .inl rfl | exact .inr (.inl rfl) | exact .inr (.inr rfl)))) (VE.b (ve_var (i := 3) (by decide) rfl (by first | exact .inl rfl | exact .inr (.inl rfl) | exact .inr (.inr rfl)))) (fun _ _ => rfl)) (va_nil)))) (va_cons stbE (ve_var (i := 1) (by decide) rfl (by first | exact .inl rfl | exact .inr (.inl rfl) | exact .inr (.inr rfl))) (va_nil))))))))))) (vss_one (vs_retO (i := 2) (by decide) rfl (by first | exact .inl rfl | exact .inr (.inl rfl) | exact .inr (.inr rfl)))))
abbrev k_law : Nat := 8
theorem sc_law : FnScope N_law ["_law_script"] (defScope (top 37)) := ⟨rfl, rfl, rfl, by decide +kernel, rfl, by decide +kernel, by decide +kernel⟩
theorem d_law {P : Program} {w : World} {K : PySem.W.Frag} {mg : Str → Option Value} {base : Heap} {cl : Str → Addr} (G_Meal_wishes : GMe P w K mg base (cl "Meal") "wishes" k_Meal_wishes ["self"] [] (lift K 1 (sp_Meal_wishes cl))) (G__law_names : GFn P w K mg base "_law_names" k__law_names ["_law_state", "_law_many"] (lift K 2 (sp__law_names cl))) (G__law_one : GFn P w K mg base "_law_one" k__law_one ["_law_state", "_law_things"] (lift K 2 (sp__law_one cl))) (G__law_same : GFn P w K mg base "_law_same" k__law_same ["_law_found", "_law_due"] (lift K 2 (sp__law_same cl))) (G__law_some : GFn P w K mg base "_law_some" k__law_some ["_law_state", "_law_things"] (lift K 2 (sp__law_some cl))) (G__law_take : GFn P w K mg base "_law_take" k__law_take ["_law_state", "_law_many"] (lift K 2 (sp__law_take cl))) (G__law_together : GFn P w K mg base "_law_together" k__law_together ["_law_names_here", "_law_most"] (lift K 2 (sp__law_together cl))) (G_behind : GFn P w K mg base "behind" k_behind ["name", "other", "least"] (liftF K 3 (sp_behind cl))) (G_keeping : GFn P w K mg base "keeping" k_keeping ["name", "others", "most"] (liftF K 3 (sp_keeping cl))) (G_ready_by : GFn P w K mg base "ready_by" k_ready_by ["names", "minute"] (liftF K 2 (sp_ready_by cl))) (G_together : GFn P w K mg base "together" k_together ["names", "most"] (liftF K 2 (sp_together cl))) (K_Meal_2 : GMk P w K mg base "Meal" (cl "Meal") k_Meal___init__ ["self", "dishes", "wishes", "stations"] [.tup []] (sp_Meal___init__ cl)) (f_dict : mg "dict" = none) (f_list : mg "list" = none) (f_range : mg "range" = none) (f_tuple : mg "tuple" = none) : Body P w K mg base N_law "law" (defScope (top 37)) 7 [] [] (defBody (top 37)).tail (m_law cl) := by
  have nd := sc_law.nd
  intro f cdv A outer s H E hr
  exact vss_cons (vs_for PassesOwn.never rfl (vi_range1 rfl f_range (VE.b (ve_int))) (vg_name (i := 2) (by decide) nd rfl (by first | exact .inl rfl | exact .inr rfl)) (VSs.weak (O' := [5]) (vss_cons (vs_set (i := 3) (by decide) nd rfl (by first | exact .inl rfl | exact .inr rfl) (ve_g rfl G__law_names hr (by decide) rfl (va_cons stbE (ve_var (i := 1) (by decide) rfl (by first | exact .inl rfl | exact .inr (.inl rfl) | exact .inr (.inr rfl))) (va_cons stbE (ve_bin od_add (VE.b (ve_int)) (VE.b (ve_g rfl G__law_take hr (by decide) rfl (va_cons stbE (ve_var (i := 1) (by decide) rfl (by first | exact .inl rfl | exact .inr (.inl rfl) | exact .inr (.inr rfl))) (va_cons stbE (ve_int) (va_nil)))))) (va_nil))))) (vss_cons (vs_set (i := 4) (by decide) nd rfl (by first | exact .inl rfl | exact .inr rfl) (ve_g rfl G__law_one hr (by decide) rfl (va_cons stbE (ve_var (i := 1) (by decide) rfl (by first | exact .inl rfl | exact .inr (.inl rfl) | exact .inr (.inr rfl))) (va_cons stbE (VF.ve (vf_lst (va_cons stbE (ve_int) (va_cons stbE (ve_int) (va_cons stbE (ve_int) (va_cons stbE (ve_neg (VE.b (ve_int))) (va_cons stbE (ve_int) (va_cons stbE (ve_neg (VE.b (ve_int))) (va_cons stbE (ve_g rfl G__law_take hr (by decide) rfl (va_cons stbE (ve_var (i := 1) (by decide) rfl (by first | exact .inl rfl | exact .inr (.inl rfl) | exact .inr (.inr rfl))) (va_cons stbE (ve_int) (va_nil)))) (va_nil)))))))))) (va_nil))))) (vss_cons (vs_asg (ve_tup (va_cons stbE (ve_g rfl G__law_some hr (by decide) rfl (va_cons stbE (ve_var (i := 1) (by decide) rfl (by first | exact .inl rfl | exact .inr (.inl rfl) | exact .inr (.inr rfl))) (va_cons stbE (ve_var (i := 3) (by decide) rfl (by first | exact .inl rfl | exact .inr (.inl rfl) | exact .inr (.inr rfl))) (va_nil)))) (va_cons stbE (ve_sub (Room.u hr) (VE.b (ve_var (i := 3) (by decide) rfl (by first | exact .inl rfl | exact .inr (.inl rfl) | exact .inr (.inr rfl)))) (VE.b (ve_int)) (fun _ _ => rfl)) (va_nil)))) (vg_tup rfl (vgs_cons (vg_name (i := 9) (by decide) nd rfl (by first | exact .inl rfl | exact .inr rfl)) (vgs_cons (vg_name (i := 10) (by decide) nd rfl (by first | exact .inl rfl | exact .inr rfl)) (vgs_nil))) (fun _ _ _ h => ((gsok_cons gok_nm (gsok_cons gok_nm (gsok_nil))) _ _ _ h).1))) (vss_cons (xs_setLc rfl (i := 5) (by decide) (by decide) rfl rfl (sw_true rfl rfl rfl (by decide +kernel)) rfl nd (VIs.vi (vi_seq (ve_var (i := 9) (by decide) rfl (by first | exact .inl rfl | exact .inr (.inl rfl) | exact .inr (.inr rfl))))) (blkOk_by (own := [("_law_x", 12)]) (N := N_law) (sc := defScope (top 37)) (by decide +kernel)) (by decide) (by decide) (fun c => vg_name (i := 12) (by decide) nd rfl (by first | exact .inl rfl | exact .inr rfl)) (fun c => vts_one (vt_cmp (od_ne (Room.u64 hr)) (VE.b (ve_var (i := 12) (by decide) rfl (by first | exact .inl rfl | exact .inr (.inl rfl) | exact .inr (.inr rfl)))) (VE.b (ve_var (i := 10) (by decide) rfl (by first | exact .inl rfl | exact .inr (.inl rfl) | exact .inr (.inr rfl)))) (nomark _))) (fun c => ve_var (i := 12) (by decide) rfl (by first | exact .inl rfl | exact .inr (.inl rfl) | exact .inr (.inr rfl)))) (vss_cons (vs_setF (i := 6) (by decide) (by decide) nd rfl (by first | exact .inl rfl | exact .inr rfl) (vf_lst (va_cons stbE (ve_g rfl G__law_together hr (by decide) rfl (va_cons stbE (ve_var (i := 9) (by decide) rfl (by first | exact .inl rfl | exact .inr (.inl rfl) | exact .inr (.inr rfl))) (va_cons stbE (ve_var (i := 4) (by decide) rfl (by first | exact .inl rfl | exact .inr (.inl rfl) | exact .inr (.inr rfl))) (va_nil)))) (va_cons stbE (VF.ve (xf_lc rfl rfl nd (vi_ownS (i := 5) rfl (by decide) rfl (by first | exact .inl rfl | exact .inr (.inl rfl) | exact .inr (.inr rfl))) (blkOk_by (own := [("_law_x", 12)]) (N := N_law) (sc := defScope (top 37)) (by decide +kernel)) (by decide) (by decide) (fun c => vg_name (i := 12) (by decide) nd rfl (by first | exact .inl rfl | exact .inr rfl)) (fun c => vts_nil) (fun c => ve_tup (va_cons stbE (ve_tup (va_cons stbE (ve_str) (va_cons stbE (ve_var (i := 10) (by decide) rfl (by first | exact .inl rfl | exact .inr (.inl rfl) | exact .inr (.inr rfl))) (va_nil)))) (va_cons stbE (ve_tup (va_cons stbE (ve_str) (va_cons stbE (ve_var (i := 12) (by decide) rfl (by first | exact .inl rfl | exact .inr (.inl rfl) | exact .inr (.inr rfl))) (va_nil)))) (va_cons stbE (ve_var (i := 4) (by decide) rfl (by first | exact .inl rfl | exact .inr (.inl rfl) | exact .inr (.inr rfl))) (va_nil))))))) (va_nil))))) (vss_cons (vs_append (i := 6) (by decide) rfl (by first | exact .inl rfl | exact .inr (.inl rfl) | exact .inr (.inr rfl)) (VF.ve (xf_lc rfl rfl nd (VIs.vi (vi_seq (ve_var (i := 9) (by decide) rfl (by first | exact .inl rfl | exact .inr (.inl rfl) | exact .inr (.inr rfl))))) (blkOk_by (own := [("_law_x", 12)]) (N := N_law) (sc := defScope (top 37)) (by decide +kernel)) (by decide) (by decide) (fun c => vg_name (i := 12) (by decide) nd rfl (by first | exact .inl rfl | exact .inr rfl)) (fun c => vts_nil) (fun c => ve_tup (va_cons stbE (ve_str) (va_cons stbE (ve_tup (va_cons stbE (ve_str) (va_cons stbE (ve_var (i := 12) (by decide) rfl (by first | exact .inl rfl | exact .inr (.inl rfl) | exact .inr (.inr rfl))) (va_nil)))) (va_cons stbE (ve_var (i := 4) (by decide) rfl (by first | exact .inl rfl | exact .inr (.inl rfl) | exact .inr (.inr rfl))) (va_nil)))))))) (vss_cons (vs_append (i := 6) (by decide) rfl (by first | exact .inl rfl | exact .inr (.inl rfl) | exact .inr (.inr rfl)) (VF.ve (vf_lst (va_cons stbE (ve_tup (va_cons stbE (ve_tup (va_cons stbE (ve_str) (va_cons stbE (ve_var (i := 10) (by decide) rfl (by first | exact .inl rfl | exact .inr (.inl rfl) | exact .inr (.inr rfl))) (va_nil)))) (va_cons stbE (ve_tup (va_cons stbE (ve_str) (va_cons stbE (ve_sub (Room.u hr) (VE.b (ve_var (i := 3) (by decide) rfl (by first | exact .inl rfl | exact .inr (.inl rfl) | exact .inr (.inr rfl)))) (VE.b (ve_int)) (fun _ _ => rfl)) (va_nil)))) (va_cons stbE (ve_bin od_sub (VE.b (ve_int)) (VE.b (ve_var (i := 4) (by decide) rfl (by first | exact .inl rfl | exact .inr (.inl rfl) | exact .inr (.inr rfl))))) (va_nil))))) (va_nil))))) (vss_cons (VS.rel (O := [5]) (vs_for PassesOwn.never rfl (vi_range1 rfl f_range (VE.b (ve_int))) (vg_name (i := 7) (by decide) nd rfl (by first | exact .inl rfl | exact .inr rfl)) (vss_cons (vs_par (i := 13) (j := 14) (by decide) (by decide) rfl nd rfl rfl (by decide) rfl rfl (ve_g rfl G__law_one hr (by decide) rfl (va_cons stbE (ve_var (i := 1) (by decide) rfl (by first | exact .inl rfl | exact .inr (.inl rfl) | exact .inr (.inr rfl))) (va_cons stbE (VF.ve (vf_lst (va_cons stbE (VF.ve (vf_callTy (cf_list rfl) rfl f_list boot_list (va_cons stbB (VE.b (ve_var (i := 9) (by decide) rfl (by first | exact .inl rfl | exact .inr (.inl rfl) | exact .inr (.inr rfl)))) (va_nil)))) (va_cons stbE (ve_callTy cd_tuple rfl f_tuple boot_tuple (va_cons stbB (VE.b (ve_var (i := 9) (by decide) rfl (by first | exact .inl rfl | exact .inr (.inl rfl) | exact .inr (.inr rfl)))) (va_nil))) (va_nil))))) (va_nil)))) (ve_g rfl G__law_one hr (by decide) rfl (va_cons stbE (ve_var (i := 1) (by decide) rfl (by first | exact .inl rfl | exact .inr (.inl rfl) | exact .inr (.inr rfl))) (va_cons stbE (VF.ve (vf_lst (va_cons stbE (VF.ve (vf_callTy (cf_list rfl) rfl f_list boot_list (va_cons stbB (vb_var (i := 5) (by decide) rfl (by first | exact .inl rfl | exact .inr (.inl rfl) | exact .inr (.inr rfl))) (va_nil)))) (va_cons stbE (ve_callTy cd_tuple rfl f_tuple boot_tuple (va_cons stbB (vb_var (i := 5) (by decide) rfl (by first | exact .inl rfl | exact .inr (.inl rfl) | exact .inr (.inr rfl))) (va_nil))) (va_nil))))) (va_nil)))) rfl) (vss_more (f := 11) (w := 8) (by decide) (by decide) (by decide) PassesOwn.never rfl nd rfl rfl (by first | exact .inl rfl | exact .inr rfl) (by first | exact .inl rfl | exact .inr rfl) (by first | exact .inl rfl | exact .inr (.inl rfl) | exact .inr (.inr rfl)) (by first | exact .inl rfl | exact .inr (.inl rfl) | exact .inr (.inr rfl)) (vf_g rfl G_together hr (by decide) rfl (va_cons stbE (ve_var (i := 13) (by decide) rfl (by first | exact .inl rfl | exact .inr (.inl rfl) | exact .inr (.inr rfl))) (va_cons stbE (ve_var (i := 4) (by decide) rfl (by first | exact .inl rfl | exact .inr (.inl rfl) | exact .inr (.inr rfl))) (va_nil)))) (vf_g rfl G_keeping hr (by decide) rfl (va_cons stbE (ve_var (i := 10) (by decide) rfl (by first | exact .inl rfl | exact .inr (.inl rfl) | exact .inr (.inr rfl))) (va_cons stbE (ve_var (i := 14) (by decide) rfl (by first | exact .inl rfl | exact .inr (.inl rfl) | exact .inr (.inr rfl))) (va_cons stbE (ve_var (i := 4) (by decide) rfl (by first | exact .inl rfl | exact .inr (.inl rfl) | exact .inr (.inr rfl))) (va_nil))))) (vf_g rfl G_ready_by hr (by decide) rfl (va_cons stbE (ve_var (i := 13) (by decide) rfl (by first | exact .inl rfl | exact .inr (.inl rfl) | exact .inr (.inr rfl))) (va_cons stbE (ve_var (i := 4) (by decide) rfl (by first | exact .inl rfl | exact .inr (.inl rfl) | exact .inr (.inr rfl))) (va_nil)))) (vf_g rfl G_behind hr (by decide) rfl (va_cons stbE (ve_var (i := 10) (by decide) rfl (by first | exact .inl rfl | exact .inr (.inl rfl) | exact .inr (.inr rfl))) (va_cons stbE (ve_sub (Room.u hr) (VE.b (ve_var (i := 3) (by decide) rfl (by first | exact .inl rfl | exact .inr (.inl rfl) | exact .inr (.inr rfl)))) (VE.b (ve_int)) (fun _ _ => rfl)) (va_cons stbE (ve_var (i := 4) (by decide) rfl (by first | exact .inl rfl | exact .inr (.inl rfl) | exact .inr (.inr rfl))) (va_nil))))) (VW.t (vw_or (vt_not (vt_val (ve_g rfl G__law_same hr (by decide) rfl (va_cons stbE (ve_var (i := 11) (by decide) rfl (by first | exact .inl rfl | exact .inr (.inl rfl) | exact .inr (.inr rfl))) (va_cons stbE (ve_var (i := 6) (by decide) rfl (by first | exact .inl rfl | exact .inr (.inl rfl) | exact .inr (.inr rfl))) (va_nil)))))) (vw_or1 (vt_cmp (od_ne (Room.u64 hr)) (VE.b (VF.ve (vf_callTy (cf_list rfl) rfl f_list boot_list (va_cons stbB (VE.b (ve_var (i := 13) (by decide) rfl (by first | exact .inl rfl | exact .inr (.inl rfl) | exact .inr (.inr rfl)))) (va_nil))))) (VE.b (ve_var (i := 9) (by decide) rfl (by first | exact .inl rfl | exact .inr (.inl rfl) | exact .inr (.inr rfl)))) (nomark _)))))))) (by decide)) (vss_cons (vs_set (i := 8) (by decide) nd rfl (by first | exact .inl rfl | exact .inr rfl) (ve_bin od_add (VE.b (ve_bin od_add (VE.b (ve_bin od_add (VE.b (ve_slice (VE.b (ve_sub (Room.u hr) (VE.b (ve_var (i := 6) (by decide) rfl (by first | exact .inl rfl | exact .inr (.inl rfl) | exact .inr (.inr rfl)))) (VE.b (ve_int)) (fun _ _ => rfl))) (vo_none) (vo_some (VE.b (ve_int))))) (VE.b (ve_sub (Room.u hr) (VE.b (ve_var (i := 6) (by decide) rfl (by first | exact .inl rfl | exact .inr (.inl rfl) | exact .inr (.inr rfl)))) (VE.b (ve_int)) (fun _ _ => rfl))))) (VE.b (ve_sub (Room.u hr) (VE.b (ve_var (i := 6) (by decide) rfl (by first | exact .inl rfl | exact .inr (.inl rfl) | exact .inr (.inr rfl)))) (VE.b (ve_int)) (fun _ _ => rfl))))) (VE.b (ve_sub (Room.u hr) (VE.b (ve_var (i := 6) (by decide) rfl (by first | exact .inl rfl | exact .inr (.inl rfl) | exact .inr (.inr rfl)))) (VE.b (ve_int)) (fun _ _ => rfl))))) (vss_one (vs_if (vt_cmp (od_ne (Room.u64 hr)) (VE.b (ve_me0 rfl G_Meal_wishes hr (by decide) (VF.ve (vf_mk rfl K_Meal_2 hr (by decide) rfl (va_cons stbE (VF.ve (vf_callTy (cf_dict rfl) rfl f_dict boot_dict (va_cons stbB (VE.b (VF.ve (xf_lc rfl rfl nd (VIs.vi (vi_seq (ve_var (i := 3) (by decide) rfl (by first | exact .inl rfl | exact .inr (.inl rfl) | exact .inr (.inr rfl))))) (blkOk_by (own := [("_law_x", 12)]) (N := N_law) (sc := defScope (top 37)) (by decide +kernel)) (by decide) (by decide) (fun c => vg_name (i := 12) (by decide) nd rfl (by first | exact .inl rfl | exact .inr rfl)) (fun c => vts_nil) (fun c => ve_tup (va_cons stbE (ve_var (i := 12) (by decide) rfl (by first | exact .inl rfl | exact .inr (.inl rfl) | exact .inr (.inr rfl))) (va_cons stbE (ve_tup (va_cons stbE (ve_int) (va_cons stbE (ve_int) (va_nil)))) (va_nil))))))) (va_nil)))) (va_cons stbE (ve_var (i := 8) (by decide) rfl (by first | exact .inl rfl | exact .inr (.inl rfl) | exact .inr (.inr rfl))) (va_nil))))))) (VE.b (ve_var (i := 8) (by decide) rfl (by first | exact .inl rfl | exact .inr (.inl rfl) | exact .inr (.inr rfl)))) (nomark _)) (vss_one (vs_ret (ve_bl))) (vss_nil)))))))))))) (by decide))) (vss_one (vs_ret (ve_bl)))
end K05
namespace K05
open PySem PySem.Spec PyProof.Rows L2 HX DL
def dF (i : Nat) (x : Str) : He.DefD := ⟨(x, none), x, x, defArgs (top i), defBody (top i), defScope (top i), [], []⟩
def dM (i j : Nat) (c m q : Str) (dfl : List He.Dv) : He.DefD := ⟨(c, some m), m, q, defArgs (mth i j), defBody (mth i j), defScope (mth i j), dfl, []⟩
def fn : List He.DefD := [dF 11 "is_list", dF 12 "is_integer", dF 13 "is_name", dF 14 "is_among", dF 15 "frozen", dF 16 "rising", dF 17 "is_moment", dF 18 "is_wish", dF 20 "are_bounds", dF 21 "is_station", dF 22 "checked_wishes",
  dM 23 0 "Meal" "__init__" "Meal.__init__" [.adr (He.dflAt ("Meal", some "__init__") 0), .adr (He.dflAt ("Meal", some "__init__") 1)], dM 23 2 "Meal" "wishes" "Meal.wishes" [],
  dF 24 "together", dF 25 "keeping", dF 26 "ready_by", dF 27 "behind", dF 29 "_law_fresh", dF 30 "_law_take", dF 31 "_law_one", dF 32 "_law_mix", dF 33 "_law_some", dF 34 "_law_same", dF 35 "_law_names", dF 36 "_law_together", dF 37 "law"]
def fa : List He.Fa := [.glo "is_list", .glo "is_integer", .glo "is_name", .glo "is_among", .glo "frozen", .glo "rising", .glo "is_moment", .glo "is_wish", .glo "are_bounds", .glo "is_station", .glo "checked_wishes", .glo "Meal", .glo "together", .glo "keeping", .glo "ready_by", .glo "behind",
  .glo "_law_fresh", .glo "_law_take", .glo "_law_one", .glo "_law_mix", .glo "_law_some", .glo "_law_same", .glo "_law_names", .glo "_law_together", .glo "law", .str "LETTERS" "abcdefghijklmnopqrstuvwxyz", .int "MOST_LETTERS" 8, .str "CLOCK" "clock",
  .free "isinstance", .free "list", .free "tuple", .free "int", .free "bool", .free "str", .free "len", .free "all", .free "enumerate", .free "set", .free "abs", .free "zip", .free "range", .free "dict",
  .cls "Meal", .mkr "Meal", .meth "Meal" "wishes", .noat "Meal" "bounds", .noat "Meal" "wish_row", .noat "Meal" "station_row"]
def ex (K : PySem.W.Frag) : Bool := tup0 K (He.dflAt ("Meal", some "__init__") 0 K) && tup0 K (He.dflAt ("Meal", some "__init__") 1 K)
def loose : List Str := [("_wall" : Str), ("KitchenError" : Str), ("BadDish" : Str), ("BadWish" : Str), ("BadStation" : Str), ("Clash" : Str), ("LETTERS" : Str), ("MOST_LETTERS" : Str), ("CLOCK" : Str), ("is_list" : Str), ("is_integer" : Str), ("is_name" : Str)] ++ [("is_among" : Str), ("frozen" : Str), ("rising" : Str), ("is_moment" : Str), ("is_wish" : Str), ("are_bounds" : Str), ("is_station" : Str), ("checked_wishes" : Str), ("Meal" : Str), ("together" : Str), ("keeping" : Str), ("ready_by" : Str)] ++ [("behind" : Str), ("_law_fresh" : Str), ("_law_take" : Str), ("_law_one" : Str), ("_law_mix" : Str), ("_law_some" : Str), ("_law_same" : Str), ("_law_names" : Str), ("_law_together" : Str)]
abbrev R : PySem.W.OpenRow := PySem.W.OpenLaw.row PySem.Challenge.rw_cookcalls_k05_wishes_made
abbrev hk : PySem.W.Hook := He.hookX 7 fa fn [] [] ex
def ob (s : PySem.W.SharedT) : He.AlX := He.obsX 7 fa fn [] [] ex (HandSHeadRun.getT s)
theorem ob_eq (s : PySem.W.SharedT) : ob s = hk.obs s.abs := He.obsX_eq (HandSHeadRun.getT_eq s)
theorem run (w : World) : HandSHeadRun.RunEq R (PySem.W.view R.prog [37]) hk ob 5000 loose w := by
  intro os
  kernel_rfl
theorem scTake : FnScope ["_law_state", "_law_many", "_law_cell", "_law_digit", "_law_mixed"] ["_law_state", "_law_many"] (defScope (top 30)) := ⟨rfl, rfl, rfl, by decide +kernel, rfl, by decide +kernel, by decide +kernel⟩
theorem scFresh : FnScope ["_law_script"] ["_law_script"] (defScope (top 29)) := ⟨rfl, rfl, rfl, by decide +kernel, rfl, by decide +kernel, by decide +kernel⟩
theorem ok_take {P : Program} {w : World} {K : PySem.W.Frag} {mg : Str → Option Value} {base : Heap} {f : Addr} {fd : FuncData} (F : FunD K "_law_take" "_law_take" (defArgs (top 30)) (defBody (top 30)) (defScope (top 30)) [] [] f fd) (hg : mg "_law_take" = some (.ref f)) (f_len : mg "len" = none) (f_abs : mg "abs" = none) (f_int : mg "int" = none) (cl : Str → Addr) :
    GFn P w K mg base "_law_take" 1 ["_law_state", "_law_many"] (lift K 2 (sp__law_take cl)) := by
  refine ⟨f, fd, hg, F.kp, F.bindsN (fun _ _ _ _ _ _ us hl => match us, hl with | [_, _], _ => rfl), F.ok scTake (fun vs H Q E h => ?_) (fun cdv A outer s H vs Q E hr h => ⟨t_take K, PSs.nox ?_, pure_take cl vs H Q E h⟩)⟩
  · obtain ⟨aS, A0, ds, n, xq, hl, r, _⟩ := h
    rw [r.length, hl]
    rfl
  · unfold t_take tPut tS
    exact pss_cons (ps_asg (pe_op op_add (pe_ix ix_list (pv 0) pe_int (fun _ _ => rfl)) pe_int) (pg_sub (pv 0) pe_int set_list)) (pss_cons (ps_while PassesOwn.never (PW.pt (pw_and (pt_cmpR op_eq (pe_ix ix_list (pv 0) pe_int (fun _ _ => rfl)) pe_int (nomark _)) (pw_and1 (pt_cmpR op_lt (pe_ix ix_list (pv 0) pe_int (fun _ _ => rfl)) (pe_callB call_len rfl f_len boot_len (pa_cons (pe_ix ix_list (pv 0) pe_int (fun _ _ => rfl)) pa_nil)) (nomark _))))) (pss_cons (ps_set (i := 2) scTake.nd rfl (.inl rfl) (pe_callB call_abs rfl f_abs boot_abs (pa_cons (pe_ix ix_list (pe_ix ix_list (pv 0) pe_int (fun _ _ => rfl)) (pe_ix ix_list (pv 0) pe_int (fun _ _ => rfl)) (fun _ _ => rfl)) pa_nil))) (pss_cons (ps_asg (pe_op op_add (pe_ix ix_list (pv 0) pe_int (fun _ _ => rfl)) pe_int) (pg_sub (pv 0) pe_int set_list)) (pss_one (ps_if (pt_cmpR op_ge (pv 2) (pe_op op_pow pe_int pe_int) (nomark _)) (pss_one (ps_asg (pv 2) (pg_sub (pv 0) pe_int set_list))) (pss_one (ps_asg (pe_op op_mod (pe_callTy call_int1 rfl f_int boot_int (pa_cons (pe_op op_add (pe_op op_add (pe_op op_mul (pe_ix ix_list (pv 0) pe_int (fun _ _ => rfl)) pe_int) (pv 2)) pe_int) pa_nil)) pe_int) (pg_sub (pv 0) pe_int set_list)))))))) (pss_cons (ps_if (pt_cmpR op_gt (pe_ix ix_list (pv 0) pe_int (fun _ _ => rfl)) pe_int (nomark _)) (pss_cons (ps_set (i := 3) scTake.nd rfl (.inl rfl) (pe_op op_mod (pe_callTy call_int1 rfl f_int boot_int (pa_cons ((pe_ix ix_list (pv 0) pe_int (fun _ _ => rfl))) pa_nil)) (pv 1))) (pss_cons (ps_asg (pe_op op_fdivW (pe_ix ix_list (pv 0) pe_int (fun _ _ => rfl)) (pv 1)) (pg_sub (pv 0) pe_int set_list)) (pss_one (ps_ret (pv 3))))) pss_nil) (pss_cons (ps_set (i := 4) scTake.nd rfl (.inl rfl) (pe_op op_mod (pe_callTy call_int1 rfl f_int boot_int (pa_cons (pe_op op_pow (pe_op op_add (pe_op op_add (pe_ix ix_list (pv 0) pe_int (fun _ _ => rfl)) (pe_op op_mul pe_int (pe_ix ix_list (pv 0) pe_int (fun _ _ => rfl)))) pe_int) pe_int) pa_nil)) pe_int)) (pss_cons (ps_set (i := 4) scTake.nd rfl (.inl rfl) (pe_op op_mod (pe_callTy call_int1 rfl f_int boot_int (pa_cons (pe_op op_pow (pe_op op_add (pv 4) (pe_op op_mul pe_int (pe_ix ix_list (pv 0) pe_int (fun _ _ => rfl)))) pe_int) pa_nil)) pe_int)) (pss_one (ps_ret (pe_op op_mod (pe_callTy call_int1 rfl f_int boot_int (pa_cons (pe_op op_fdivW (pv 4) pe_int) pa_nil)) (pv 1))))))))
theorem ok_fresh {P : Program} {w : World} {K : PySem.W.Frag} {mg : Str → Option Value} {base : Heap} {f : Addr} {fd : FuncData} (F : FunD K "_law_fresh" "_law_fresh" (defArgs (top 29)) (defBody (top 29)) (defScope (top 29)) [] [] f fd) (hg : mg "_law_fresh" = some (.ref f)) (f_list : mg "list" = none) : GFn P w K mg base "_law_fresh" 1 ["_law_script"] (spFresh K) := by
  refine ⟨f, fd, hg, F.kp, F.bindsN (fun _ _ _ _ _ _ us hl => match us, hl with | [_], _ => rfl), F.ok scFresh (fun vs H Q E h => ?_) (fun cdv A outer s H vs Q E hr h => ⟨t_fresh K, PSs.nox ?_, pure_fresh vs H Q E h⟩)⟩
  · obtain ⟨a, ns, rfl, _⟩ := h
    rfl
  · unfold t_fresh
    exact pss_one (ps_ret (pe_lst (pa_cons (pe_callTy call_list_of rfl f_list boot_list (pa_cons (pe_slice sl_list (pv 0) po_none (po_some pe_int)) pa_nil)) (pa_cons pe_int (pa_cons pe_int (pa_cons pe_int (pa_cons pe_int pa_nil)))))))
theorem facts {P : Program} {w : World} {K : PySem.W.Frag} {h : Heap} {mg : Str → Option Value} {f : Addr} (X : K.In h) (G : h.Ns mainGlobals mg) (hfa : mg ("law" : Str) = some (.ref f)) (c : He.SaysX fa fn [] [] ex w h K) :
    ∃ fd : FuncData, (∀ (s : Shared) (v : Value), BindsTo s fd ⟨[v], []⟩ [("_law_script", v)]) ∧ ∀ base : Heap, K.In base → base.Ns mainGlobals mg → FnOk P w K mg base CX0 k_law f fd ["_law_script"] (spLaw K) := by
  have cd : He.SaysD fa fn K := c.t.d
  obtain ⟨ht0, ht1⟩ := He.ba c.more
  have fc := fun (i : Nat) {f : He.Fa} (e : fa[i]? = some f) => cd.fact i e
  let cl : Str → Addr := He.ga K
  have gl_is_list : mg "is_list" = some (.ref (He.ga K "is_list")) := He.glo_ok X G (fc 0 rfl)
  have gl_is_integer : mg "is_integer" = some (.ref (He.ga K "is_integer")) := He.glo_ok X G (fc 1 rfl)
  have gl_is_name : mg "is_name" = some (.ref (He.ga K "is_name")) := He.glo_ok X G (fc 2 rfl)
  have gl_is_among : mg "is_among" = some (.ref (He.ga K "is_among")) := He.glo_ok X G (fc 3 rfl)
  have gl_frozen : mg "frozen" = some (.ref (He.ga K "frozen")) := He.glo_ok X G (fc 4 rfl)
  have gl_rising : mg "rising" = some (.ref (He.ga K "rising")) := He.glo_ok X G (fc 5 rfl)
  have gl_is_moment : mg "is_moment" = some (.ref (He.ga K "is_moment")) := He.glo_ok X G (fc 6 rfl)
  have gl_is_wish : mg "is_wish" = some (.ref (He.ga K "is_wish")) := He.glo_ok X G (fc 7 rfl)
  have gl_are_bounds : mg "are_bounds" = some (.ref (He.ga K "are_bounds")) := He.glo_ok X G (fc 8 rfl)
  have gl_is_station : mg "is_station" = some (.ref (He.ga K "is_station")) := He.glo_ok X G (fc 9 rfl)
  have gl_checked_wishes : mg "checked_wishes" = some (.ref (He.ga K "checked_wishes")) := He.glo_ok X G (fc 10 rfl)
  have gl_Meal : mg "Meal" = some (.ref (He.ga K "Meal")) := He.glo_ok X G (fc 11 rfl)
  have gl_together : mg "together" = some (.ref (He.ga K "together")) := He.glo_ok X G (fc 12 rfl)
  have gl_keeping : mg "keeping" = some (.ref (He.ga K "keeping")) := He.glo_ok X G (fc 13 rfl)
  have gl_ready_by : mg "ready_by" = some (.ref (He.ga K "ready_by")) := He.glo_ok X G (fc 14 rfl)
  have gl_behind : mg "behind" = some (.ref (He.ga K "behind")) := He.glo_ok X G (fc 15 rfl)
  have gl__law_fresh : mg "_law_fresh" = some (.ref (He.ga K "_law_fresh")) := He.glo_ok X G (fc 16 rfl)
  have gl__law_take : mg "_law_take" = some (.ref (He.ga K "_law_take")) := He.glo_ok X G (fc 17 rfl)
  have gl__law_one : mg "_law_one" = some (.ref (He.ga K "_law_one")) := He.glo_ok X G (fc 18 rfl)
  have gl__law_mix : mg "_law_mix" = some (.ref (He.ga K "_law_mix")) := He.glo_ok X G (fc 19 rfl)
  have gl__law_some : mg "_law_some" = some (.ref (He.ga K "_law_some")) := He.glo_ok X G (fc 20 rfl)
  have gl__law_same : mg "_law_same" = some (.ref (He.ga K "_law_same")) := He.glo_ok X G (fc 21 rfl)
  have gl__law_names : mg "_law_names" = some (.ref (He.ga K "_law_names")) := He.glo_ok X G (fc 22 rfl)
  have gl__law_together : mg "_law_together" = some (.ref (He.ga K "_law_together")) := He.glo_ok X G (fc 23 rfl)
  have gl_law : mg "law" = some (.ref (He.ga K "law")) := He.glo_ok X G (fc 24 rfl)
  have c_LETTERS : ∃ t, mg "LETTERS" = some (.str "abcdefghijklmnopqrstuvwxyz" t) := He.str_ok X G (fc 25 rfl)
  have c_MOST_LETTERS : ∃ t, mg "MOST_LETTERS" = some (.int 8 t) := He.int_ok X G (fc 26 rfl)
  have c_CLOCK : ∃ t, mg "CLOCK" = some (.str "clock" t) := He.str_ok X G (fc 27 rfl)
  have f_isinstance : mg "isinstance" = none := He.free_ok X G (fc 28 rfl)
  have f_list : mg "list" = none := He.free_ok X G (fc 29 rfl)
  have f_tuple : mg "tuple" = none := He.free_ok X G (fc 30 rfl)
  have f_int : mg "int" = none := He.free_ok X G (fc 31 rfl)
  have f_bool : mg "bool" = none := He.free_ok X G (fc 32 rfl)
  have f_str : mg "str" = none := He.free_ok X G (fc 33 rfl)
  have f_len : mg "len" = none := He.free_ok X G (fc 34 rfl)
  have f_all : mg "all" = none := He.free_ok X G (fc 35 rfl)
  have f_enumerate : mg "enumerate" = none := He.free_ok X G (fc 36 rfl)
  have f_set : mg "set" = none := He.free_ok X G (fc 37 rfl)
  have f_abs : mg "abs" = none := He.free_ok X G (fc 38 rfl)
  have f_zip : mg "zip" = none := He.free_ok X G (fc 39 rfl)
  have f_range : mg "range" = none := He.free_ok X G (fc 40 rfl)
  have f_dict : mg "dict" = none := He.free_ok X G (fc 41 rfl)
  have cl_Meal : Cls K (cl "Meal") := He.cls_ok (fc 42 rfl)
  have mk_Meal : Mk K (cl "Meal") (He.ma K (cl "Meal") "__init__") := He.mkr_ok (fc 43 rfl)
  have me_Meal_wishes : Meth K (cl "Meal") "wishes" (He.ma K (cl "Meal") "wishes") := He.meth_ok (fc 44 rfl)
  have na_Meal_bounds : NoAttr K (cl "Meal") "bounds" := He.noat_ok (fc 45 rfl)
  have na_Meal_wish_row : NoAttr K (cl "Meal") "wish_row" := He.noat_ok (fc 46 rfl)
  have na_Meal_station_row : NoAttr K (cl "Meal") "station_row" := He.noat_ok (fc 47 rfl)
  obtain ⟨fd_is_list, F_is_list⟩ := cd.def_ 0 rfl
  obtain ⟨fd_is_integer, F_is_integer⟩ := cd.def_ 1 rfl
  obtain ⟨fd_is_name, F_is_name⟩ := cd.def_ 2 rfl
  obtain ⟨fd_is_among, F_is_among⟩ := cd.def_ 3 rfl
  obtain ⟨fd_frozen, F_frozen⟩ := cd.def_ 4 rfl
  obtain ⟨fd_rising, F_rising⟩ := cd.def_ 5 rfl
  obtain ⟨fd_is_moment, F_is_moment⟩ := cd.def_ 6 rfl
  obtain ⟨fd_is_wish, F_is_wish⟩ := cd.def_ 7 rfl
  obtain ⟨fd_are_bounds, F_are_bounds⟩ := cd.def_ 8 rfl
  obtain ⟨fd_is_station, F_is_station⟩ := cd.def_ 9 rfl
  obtain ⟨fd_checked_wishes, F_checked_wishes⟩ := cd.def_ 10 rfl
  obtain ⟨fd_Meal___init__, F_Meal___init__⟩ := cd.def_ 11 rfl
  obtain ⟨fd_Meal_wishes, F_Meal_wishes⟩ := cd.def_ 12 rfl
  obtain ⟨fd_together, F_together⟩ := cd.def_ 13 rfl
  obtain ⟨fd_keeping, F_keeping⟩ := cd.def_ 14 rfl
  obtain ⟨fd_ready_by, F_ready_by⟩ := cd.def_ 15 rfl
  obtain ⟨fd_behind, F_behind⟩ := cd.def_ 16 rfl
  obtain ⟨fd__law_fresh, F__law_fresh⟩ := cd.def_ 17 rfl
  obtain ⟨fd__law_take, F__law_take⟩ := cd.def_ 18 rfl
  obtain ⟨fd__law_one, F__law_one⟩ := cd.def_ 19 rfl
  obtain ⟨fd__law_mix, F__law_mix⟩ := cd.def_ 20 rfl
  obtain ⟨fd__law_some, F__law_some⟩ := cd.def_ 21 rfl
  obtain ⟨fd__law_same, F__law_same⟩ := cd.def_ 22 rfl
  obtain ⟨fd__law_names, F__law_names⟩ := cd.def_ 23 rfl
  obtain ⟨fd__law_together, F__law_together⟩ := cd.def_ 24 rfl
  obtain ⟨fd_law, F_law⟩ := cd.def_ 25 rfl
  have el : f = He.ga K "law" := by have e := hfa.symm.trans gl_law; cases e; rfl
  subst el
  have bl := FunD.bindsA (ps := ["_law_script"]) F_law fun _ _ _ _ _ _ us hl => match us, hl with | [_], _ => rfl
  refine ⟨fd_law, fun s v => bl s [v] rfl, fun base _ _ => ?_⟩
  have G_is_list : GFn P w K mg base "is_list" k_is_list ["thing"] (lift K 1 (sp_is_list cl)) := gfn F_is_list gl_is_list sc_is_list (fun _ _ _ _ _ _ us hl => match us, hl with | [_], _ => rfl) (d_is_list (P := P) (w := w) (K := K) (mg := mg) (base := base) (cl := cl) (f_isinstance := f_isinstance) (f_list := f_list) (f_tuple := f_tuple)) (M_is_list cl)
  have G_is_integer : GFn P w K mg base "is_integer" k_is_integer ["thing"] (lift K 1 (sp_is_integer cl)) := gfn F_is_integer gl_is_integer sc_is_integer (fun _ _ _ _ _ _ us hl => match us, hl with | [_], _ => rfl) (d_is_integer (P := P) (w := w) (K := K) (mg := mg) (base := base) (cl := cl) (f_bool := f_bool) (f_int := f_int) (f_isinstance := f_isinstance)) (M_is_integer cl)
  have G_is_name : GFn P w K mg base "is_name" k_is_name ["thing"] (lift K 1 (sp_is_name cl)) := gfn F_is_name gl_is_name sc_is_name (fun _ _ _ _ _ _ us hl => match us, hl with | [_], _ => rfl) (d_is_name (P := P) (w := w) (K := K) (mg := mg) (base := base) (cl := cl) (c_CLOCK := c_CLOCK) (c_LETTERS := c_LETTERS) (c_MOST_LETTERS := c_MOST_LETTERS) (f_all := f_all) (f_isinstance := f_isinstance) (f_len := f_len) (f_str := f_str)) (M_is_name cl)
  have G_is_among : GFn P w K mg base "is_among" k_is_among ["thing", "names"] (lift K 2 (sp_is_among cl)) := gfn F_is_among gl_is_among sc_is_among (fun _ _ _ _ _ _ us hl => match us, hl with | [_, _], _ => rfl) (d_is_among (P := P) (w := w) (K := K) (mg := mg) (base := base) (cl := cl) (f_isinstance := f_isinstance) (f_str := f_str)) (M_is_among cl)
  have Z_frozen_0 : GFn P w K mg base "frozen" 1 ["thing"] (lift K 1 (sp_frozenN 0)) := gfn (m := sNever) (O' := []) F_frozen gl_frozen sc_frozen (fun _ _ _ _ _ _ us hl => match us, hl with | [_], _ => rfl) (fun f cdv A outer s H E hr => vss_never) (fun ds n Q xq hl h => h.elim)
  have Z_frozen_1 : GFn P w K mg base "frozen" 2 ["thing"] (lift K 1 (sp_frozenN 1)) := gfn F_frozen gl_frozen sc_frozen (fun _ _ _ _ _ _ us hl => match us, hl with | [_], _ => rfl) (d_frozen (P := P) (w := w) (K := K) (mg := mg) (base := base) (cl := cl) (kk := 1) (sp := sp_frozenN 0) (by decide) (G_self := Z_frozen_0) (G_is_list := G_is_list) (f_tuple := f_tuple)) (M_frozen cl 0)
  have Z_frozen_2 : GFn P w K mg base "frozen" 3 ["thing"] (lift K 1 (sp_frozenN 2)) := gfn F_frozen gl_frozen sc_frozen (fun _ _ _ _ _ _ us hl => match us, hl with | [_], _ => rfl) (d_frozen (P := P) (w := w) (K := K) (mg := mg) (base := base) (cl := cl) (kk := 2) (sp := sp_frozenN 1) (by decide) (G_self := Z_frozen_1) (G_is_list := G_is_list) (f_tuple := f_tuple)) (M_frozen cl 1)
  have Z_frozen_3 : GFn P w K mg base "frozen" 4 ["thing"] (lift K 1 (sp_frozenN 3)) := gfn F_frozen gl_frozen sc_frozen (fun _ _ _ _ _ _ us hl => match us, hl with | [_], _ => rfl) (d_frozen (P := P) (w := w) (K := K) (mg := mg) (base := base) (cl := cl) (kk := 3) (sp := sp_frozenN 2) (by decide) (G_self := Z_frozen_2) (G_is_list := G_is_list) (f_tuple := f_tuple)) (M_frozen cl 2)
  have G_frozen : GFn P w K mg base "frozen" k_frozen ["thing"] (lift K 1 (sp_frozen cl)) := Z_frozen_3
  have G_rising : GFn P w K mg base "rising" k_rising ["things"] (lift K 1 (sp_rising cl)) := gfn F_rising gl_rising sc_rising (fun _ _ _ _ _ _ us hl => match us, hl with | [_], _ => rfl) (d_rising (P := P) (w := w) (K := K) (mg := mg) (base := base) (cl := cl) (f_len := f_len)) (M_rising cl)
  have G_is_moment : GFn P w K mg base "is_moment" k_is_moment ["thing", "names"] (lift K 2 (sp_is_moment cl)) := gfn F_is_moment gl_is_moment sc_is_moment (fun _ _ _ _ _ _ us hl => match us, hl with | [_, _], _ => rfl) (d_is_moment (P := P) (w := w) (K := K) (mg := mg) (base := base) (cl := cl) (G_is_among := G_is_among) (G_is_list := G_is_list) (c_CLOCK := c_CLOCK) (f_isinstance := f_isinstance) (f_len := f_len) (f_str := f_str)) (M_is_moment cl)
  have G_is_wish : GFn P w K mg base "is_wish" k_is_wish ["thing", "names"] (lift K 2 (sp_is_wish cl)) := gfn F_is_wish gl_is_wish sc_is_wish (fun _ _ _ _ _ _ us hl => match us, hl with | [_, _], _ => rfl) (d_is_wish (P := P) (w := w) (K := K) (mg := mg) (base := base) (cl := cl) (G_is_integer := G_is_integer) (G_is_list := G_is_list) (G_is_moment := G_is_moment) (f_len := f_len)) (M_is_wish cl)
  have G_are_bounds : GFn P w K mg base "are_bounds" k_are_bounds ["thing"] (lift K 1 (sp_are_bounds cl)) := gfn F_are_bounds gl_are_bounds sc_are_bounds (fun _ _ _ _ _ _ us hl => match us, hl with | [_], _ => rfl) (d_are_bounds (P := P) (w := w) (K := K) (mg := mg) (base := base) (cl := cl) (G_is_integer := G_is_integer) (G_is_list := G_is_list) (f_len := f_len)) (M_are_bounds cl)
  have G_is_station : GFn P w K mg base "is_station" k_is_station ["thing", "names"] (lift K 2 (sp_is_station cl)) := gfn F_is_station gl_is_station sc_is_station (fun _ _ _ _ _ _ us hl => match us, hl with | [_, _], _ => rfl) (d_is_station (P := P) (w := w) (K := K) (mg := mg) (base := base) (cl := cl) ) (fun ds n Q xq hl h => h.elim)
  have G_checked_wishes : GFn P w K mg base "checked_wishes" k_checked_wishes ["wishes", "names"] (lift K 2 (sp_checked_wishes cl)) := gfn F_checked_wishes gl_checked_wishes sc_checked_wishes (fun _ _ _ _ _ _ us hl => match us, hl with | [_, _], _ => rfl) (d_checked_wishes (P := P) (w := w) (K := K) (mg := mg) (base := base) (cl := cl) (G_frozen := G_frozen) (G_is_list := G_is_list) (G_is_wish := G_is_wish) (f_enumerate := f_enumerate) (f_tuple := f_tuple)) (M_checked_wishes cl)
  obtain ⟨us, hus, hbi⟩ := F_Meal___init__.binds1 (ps := ["self", "dishes", "wishes", "stations"]) 3 1 (by intro z; cases z) rfl (fun T kV doc pm an cdv ct us its h1 h2 => match us, its, h1, h2 with | [_, _, _], [_, _], _, _ => ⟨_, rfl, rfl⟩)
  have I_Meal : FnOk P w K mg base CX0 k_Meal___init__ (He.ma K (cl "Meal") "__init__") fd_Meal___init__ ["self", "dishes", "wishes", "stations"] (liftI K (cl "Meal") 4 (sp_Meal___init__ cl)) := dfnI F_Meal___init__ sc_Meal___init__ (O' := [0]) (by decide) (fun cdv A outer s H E hr => (d_Meal___init__ (P := P) (w := w) (K := K) (mg := mg) (base := base) (cl := cl) (G_are_bounds := G_are_bounds) (G_checked_wishes := G_checked_wishes) (G_is_list := G_is_list) (G_is_name := G_is_name) (G_is_station := G_is_station) (G_rising := G_rising) (cl_Meal := cl_Meal) (f_enumerate := f_enumerate) (f_list := f_list) (f_tuple := f_tuple) (na_Meal_bounds := na_Meal_bounds) (na_Meal_station_row := na_Meal_station_row) (na_Meal_wish_row := na_Meal_wish_row)) _ cdv A outer s H E hr) (M_Meal___init__ cl)
  have K_Meal_2 : GMk P w K mg base "Meal" (cl "Meal") k_Meal___init__ ["self", "dishes", "wishes", "stations"] [.tup []] (sp_Meal___init__ cl) := ⟨_, _, us, _, gl_Meal, mk_Meal, hbi, hus, fun aS H A => RepL.cons (rep_tup (.inr (tup0_ok ht1)) RepL.nil) RepL.nil,
    fun ds n Q xq ⟨ks, ws, e, h0, h1, h2, h3, h4, q⟩ => ⟨ks, ws, e, h0, h1, h2, h3, h4, fun fs a b => ⟨⟨fs, rfl⟩, q fs a b⟩⟩, I_Meal⟩
  have G_Meal_wishes : GMe P w K mg base (cl "Meal") "wishes" k_Meal_wishes ["self"] [] (lift K 1 (sp_Meal_wishes cl)) := ⟨_, _, [], [], cl_Meal, me_Meal_wishes, F_Meal_wishes.bindsN (fun _ _ _ _ _ _ us hl => match us, hl with | [_], _ => rfl), .nil, fun _ _ _ => RepL.nil, dfn F_Meal_wishes sc_Meal_wishes (O' := []) (fun cdv A outer s H E hr => (d_Meal_wishes (P := P) (w := w) (K := K) (mg := mg) (base := base) (cl := cl) (cl_Meal := cl_Meal) (f_list := f_list) (na_Meal_wish_row := na_Meal_wish_row)) _ cdv A outer s H E hr) (M_Meal_wishes cl)⟩
  have G_together : GFn P w K mg base "together" k_together ["names", "most"] (liftF K 2 (sp_together cl)) := gfnF F_together gl_together sc_together (fun _ _ _ _ _ _ us hl => match us, hl with | [_, _], _ => rfl) (d_together (P := P) (w := w) (K := K) (mg := mg) (base := base) (cl := cl) (f_enumerate := f_enumerate)) (M_together cl)
  have G_keeping : GFn P w K mg base "keeping" k_keeping ["name", "others", "most"] (liftF K 3 (sp_keeping cl)) := gfnF F_keeping gl_keeping sc_keeping (fun _ _ _ _ _ _ us hl => match us, hl with | [_, _, _], _ => rfl) (d_keeping (P := P) (w := w) (K := K) (mg := mg) (base := base) (cl := cl) ) (M_keeping cl)
  have G_ready_by : GFn P w K mg base "ready_by" k_ready_by ["names", "minute"] (liftF K 2 (sp_ready_by cl)) := gfnF F_ready_by gl_ready_by sc_ready_by (fun _ _ _ _ _ _ us hl => match us, hl with | [_, _], _ => rfl) (d_ready_by (P := P) (w := w) (K := K) (mg := mg) (base := base) (cl := cl) (c_CLOCK := c_CLOCK)) (M_ready_by cl)
  have G_behind : GFn P w K mg base "behind" k_behind ["name", "other", "least"] (liftF K 3 (sp_behind cl)) := gfnF F_behind gl_behind sc_behind (fun _ _ _ _ _ _ us hl => match us, hl with | [_, _, _], _ => rfl) (d_behind (P := P) (w := w) (K := K) (mg := mg) (base := base) (cl := cl) ) (M_behind cl)
  have G__law_take : GFn P w K mg base "_law_take" k__law_take ["_law_state", "_law_many"] (lift K 2 (sp__law_take cl)) := ok_take F__law_take gl__law_take f_len f_abs f_int cl
  have G__law_one : GFn P w K mg base "_law_one" k__law_one ["_law_state", "_law_things"] (lift K 2 (sp__law_one cl)) := gfn F__law_one gl__law_one sc__law_one (fun _ _ _ _ _ _ us hl => match us, hl with | [_, _], _ => rfl) (d__law_one (P := P) (w := w) (K := K) (mg := mg) (base := base) (cl := cl) (G__law_take := G__law_take) (f_len := f_len)) (M__law_one cl)
  have G__law_mix : GFn P w K mg base "_law_mix" k__law_mix ["_law_state", "_law_things"] (lift K 2 (sp__law_mix cl)) := gfn F__law_mix gl__law_mix sc__law_mix (fun _ _ _ _ _ _ us hl => match us, hl with | [_, _], _ => rfl) (d__law_mix (P := P) (w := w) (K := K) (mg := mg) (base := base) (cl := cl) (G__law_take := G__law_take) (f_len := f_len) (f_list := f_list)) (M__law_mix cl)
  have G__law_some : GFn P w K mg base "_law_some" k__law_some ["_law_state", "_law_things"] (lift K 2 (sp__law_some cl)) := gfn F__law_some gl__law_some sc__law_some (fun _ _ _ _ _ _ us hl => match us, hl with | [_, _], _ => rfl) (d__law_some (P := P) (w := w) (K := K) (mg := mg) (base := base) (cl := cl) (G__law_take := G__law_take)) (M__law_some cl)
  have Z__law_same_0 : GFn P w K mg base "_law_same" 1 ["_law_found", "_law_due"] (lift K 2 (sp_sameN 0)) := gfn (m := sNever) (O' := []) F__law_same gl__law_same sc__law_same (fun _ _ _ _ _ _ us hl => match us, hl with | [_, _], _ => rfl) (fun f cdv A outer s H E hr => vss_never) (fun ds n Q xq hl h => h.elim)
  have Z__law_same_1 : GFn P w K mg base "_law_same" 2 ["_law_found", "_law_due"] (lift K 2 (sp_sameN 1)) := gfn F__law_same gl__law_same sc__law_same (fun _ _ _ _ _ _ us hl => match us, hl with | [_, _], _ => rfl) (d__law_same (P := P) (w := w) (K := K) (mg := mg) (base := base) (cl := cl) (kk := 1) (sp := sp_sameN 0) (by decide) (G_self := Z__law_same_0) (f_all := f_all) (f_bool := f_bool) (f_int := f_int) (f_isinstance := f_isinstance) (f_len := f_len) (f_list := f_list) (f_tuple := f_tuple) (f_zip := f_zip)) (M__law_same cl 0 (by decide))
  have Z__law_same_2 : GFn P w K mg base "_law_same" 3 ["_law_found", "_law_due"] (lift K 2 (sp_sameN 2)) := gfn F__law_same gl__law_same sc__law_same (fun _ _ _ _ _ _ us hl => match us, hl with | [_, _], _ => rfl) (d__law_same (P := P) (w := w) (K := K) (mg := mg) (base := base) (cl := cl) (kk := 2) (sp := sp_sameN 1) (by decide) (G_self := Z__law_same_1) (f_all := f_all) (f_bool := f_bool) (f_int := f_int) (f_isinstance := f_isinstance) (f_len := f_len) (f_list := f_list) (f_tuple := f_tuple) (f_zip := f_zip)) (M__law_same cl 1 (by decide))
  have Z__law_same_3 : GFn P w K mg base "_law_same" 4 ["_law_found", "_law_due"] (lift K 2 (sp_sameN 3)) := gfn F__law_same gl__law_same sc__law_same (fun _ _ _ _ _ _ us hl => match us, hl with | [_, _], _ => rfl) (d__law_same (P := P) (w := w) (K := K) (mg := mg) (base := base) (cl := cl) (kk := 3) (sp := sp_sameN 2) (by decide) (G_self := Z__law_same_2) (f_all := f_all) (f_bool := f_bool) (f_int := f_int) (f_isinstance := f_isinstance) (f_len := f_len) (f_list := f_list) (f_tuple := f_tuple) (f_zip := f_zip)) (M__law_same cl 2 (by decide))
  have Z__law_same_4 : GFn P w K mg base "_law_same" 5 ["_law_found", "_law_due"] (lift K 2 (sp_sameN 4)) := gfn F__law_same gl__law_same sc__law_same (fun _ _ _ _ _ _ us hl => match us, hl with | [_, _], _ => rfl) (d__law_same (P := P) (w := w) (K := K) (mg := mg) (base := base) (cl := cl) (kk := 4) (sp := sp_sameN 3) (by decide) (G_self := Z__law_same_3) (f_all := f_all) (f_bool := f_bool) (f_int := f_int) (f_isinstance := f_isinstance) (f_len := f_len) (f_list := f_list) (f_tuple := f_tuple) (f_zip := f_zip)) (M__law_same cl 3 (by decide))
  have Z__law_same_5 : GFn P w K mg base "_law_same" 6 ["_law_found", "_law_due"] (lift K 2 (sp_sameN 5)) := gfn F__law_same gl__law_same sc__law_same (fun _ _ _ _ _ _ us hl => match us, hl with | [_, _], _ => rfl) (d__law_same (P := P) (w := w) (K := K) (mg := mg) (base := base) (cl := cl) (kk := 5) (sp := sp_sameN 4) (by decide) (G_self := Z__law_same_4) (f_all := f_all) (f_bool := f_bool) (f_int := f_int) (f_isinstance := f_isinstance) (f_len := f_len) (f_list := f_list) (f_tuple := f_tuple) (f_zip := f_zip)) (M__law_same cl 4 (by decide))
  have G__law_same : GFn P w K mg base "_law_same" k__law_same ["_law_found", "_law_due"] (lift K 2 (sp__law_same cl)) := Z__law_same_5
  have G__law_names : GFn P w K mg base "_law_names" k__law_names ["_law_state", "_law_many"] (lift K 2 (sp__law_names cl)) := gfn F__law_names gl__law_names sc__law_names (fun _ _ _ _ _ _ us hl => match us, hl with | [_, _], _ => rfl) (d__law_names (P := P) (w := w) (K := K) (mg := mg) (base := base) (cl := cl) (G__law_mix := G__law_mix)) (M__law_names cl)
  have G__law_together : GFn P w K mg base "_law_together" k__law_together ["_law_names_here", "_law_most"] (lift K 2 (sp__law_together cl)) := gfn F__law_together gl__law_together sc__law_together (fun _ _ _ _ _ _ us hl => match us, hl with | [_, _], _ => rfl) (d__law_together (P := P) (w := w) (K := K) (mg := mg) (base := base) (cl := cl) (f_len := f_len) (f_range := f_range)) (M__law_together cl)
  obtain ⟨ff, fdf, g1, g2, g3, g4⟩ := ok_fresh (P := P) (w := w) (base := base) F__law_fresh gl__law_fresh f_list
  exact law_top F_law sc_law (by decide) (fun cdv A outer s H E hr => ps_set (i := 1) sc_law.nd rfl (.inl rfl) (pe_call g4 (DL.Room.le hr (by decide)) rfl g1 g2 g3 .nil passT (pa_cons (pv 0) pa_nil))) (d_law (P := P) (w := w) (K := K) (mg := mg) (base := base) (cl := cl) (G_Meal_wishes := G_Meal_wishes) (G__law_names := G__law_names) (G__law_one := G__law_one) (G__law_same := G__law_same) (G__law_some := G__law_some) (G__law_take := G__law_take) (G__law_together := G__law_together) (G_behind := G_behind) (G_keeping := G_keeping) (G_ready_by := G_ready_by) (G_together := G_together) (K_Meal_2 := K_Meal_2) (f_dict := f_dict) (f_list := f_list) (f_range := f_range) (f_tuple := f_tuple)) (M_law cl)
end K05
open PySem PySem.W PySem.Calls PyProof.Rows
theorem PySem.Challenge.cw_cookcalls_k05_wishes_made_holds : PySem.Challenge.rw_cookcalls_k05_wishes_made.Holds := by
  w_on; o_law
  refine HandSHeadRun.head_any (r := OpenLaw.row PySem.Challenge.rw_cookcalls_k05_wishes_made) (q := view (OpenLaw.row PySem.Challenge.rw_cookcalls_k05_wishes_made).prog [37]) (H := K05.hk) (ob := K05.ob) (M := 5000) (loose := K05.loose) (d := HandSHeadRun.topDef (OpenLaw.row PySem.Challenge.rw_cookcalls_k05_wishes_made).prog 37) (kwd := []) K05.ob_eq
    (by kernel_rfl) (fun s => by kernel_rfl) K05.run (by kernel_rfl) (by kernel_rfl) (by kernel_rfl) (by rfl) (by first | assumption | decide +kernel) (by decide +kernel) ⟨rfl, rfl, rfl, rfl, rfl, by decide +kernel⟩ ?hw ?hc
  case hw => w_witness2
  case hc =>
    refine L2.walk_ofE (l := PySem.Challenge.rw_cookcalls_k05_wishes_made) (n := 63) (k := K05.k_law) (x := "_law_script") (CX := L2.CX0) rfl (by decide) (by kernel_rfl) ⟨rfl, by decide, by decide⟩ ?F (fun _ _ _ _ z => z)
    intro w mg fa h Y G hmg0
    obtain ⟨K, KX, c⟩ := Y
    have hmg : mg ("law" : PySem.Str) = some (.ref fa) := by
      have e : (HandSHeadRun.topDef (OpenLaw.row PySem.Challenge.rw_cookcalls_k05_wishes_made).prog 37).name = ("law" : PySem.Str) := by kernel_rfl
      rw [← e]
      exact hmg0
    obtain ⟨fd, hb, hF⟩ := K05.facts (P := (PySem.Challenge.rw_cookcalls_k05_wishes_made).prog) (w := w) KX G hmg c
    exact ⟨K, fd, DL.spLaw K, KX, hb, fun H a ns hl _ hS => ⟨a, ns, rfl, hS, fun _ => rfl⟩, hF⟩
