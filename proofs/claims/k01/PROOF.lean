import PyProof.Rows.All
import Wide.All
import OpenK.AllK
import Wide.FinOn
import HandS.ForMost
import HandS.Exc
import HandS.ExcInit
import HandS.TryMany
import HandS.SetKeys
import HandS.DictComp
import HandS.DictTup
import HandS.Defaults
import HandS.More
import HandS.WordsExc
import HandS.IsInst
import HandS.Walk
import HandS.ExcField
import HandS.ExcOwn
import HandS.Set
import HandS.Strs
import PyProof.DictMoreH
import KE.KDictDisplayH
import HandS.Words
import HandS.Keys
import KE.KSortTupAny
import HandS.Text
import KE.DataEq
import KE.KStateDown
import HandS.Head0
import HandS.Head1
import HandS.Head2
import HandS.HeadEnd
import HandS.HeadHook1
import HandS.HeadHook2
import PySem.Challenge.RW_traitmere_k01_names_of_kinds
set_option Elab.async false
set_option linter.all false
set_option maxRecDepth 100000
set_option maxHeartbeats 2000000
namespace Tm
open PySem PySem.Spec PyProof.Rows L2

/-! ### the plain wish of a piece of syntax -/
def WE (X : Cx) (e : Expr) : TE := fun σ H Q => ∀ pins s, Inv X pins σ H s → wpAny (model X.prog X.w) X.A (eval e X.env) (EP X pins σ Q) X.xe s
def WT (X : Cx) (e : Expr) : TT := fun σ H Q => ∀ pins s, Inv X pins σ H s → wpAny (model X.prog X.w) X.A (isTrue e X.env (eval e X.env)) (TP X pins σ Q) X.xe s
def WA (X : Cx) (es : List Expr) : TA := fun σ H Q => ∀ pos pins s, Inv X pins σ H s → wpAny (model X.prog X.w) X.A (spliced (backTo pos (starEach es X.env))) (AP X pins σ Q) X.xe s
def WS (X : Cx) (st : Stmt) : TS := fun D σ H => ∀ pins s, Inv X pins σ H s → wpAny (model X.prog X.w) X.A (exec st X.env) (SP X pins D) X.xe s
def WB (X : Cx) (st : List Stmt) : TS := fun D σ H => ∀ pins s, Inv X pins σ H s → wpAny (model X.prog X.w) X.A (execs st X.env) (SP X pins D) X.xe s
section
variable {X : Cx} {e : Expr} {es : List Expr} {st : Stmt} {sts : List Stmt} {σ : L2.St} {H : Hp}
theorem pw : PE X e (WE X e) := ⟨fun _ _ _ _ _ I h => h _ _ I⟩
theorem ptw : PT X e (WT X e) := ⟨fun _ _ _ _ _ I h => h _ _ I⟩
theorem paw : PA X es (WA X es) := ⟨fun _ _ _ _ _ _ I h => h _ _ _ I⟩
theorem psw : PS X st (WS X st) := ⟨fun _ _ _ _ _ I h => h _ _ I⟩
theorem pbw : PSs X sts (WB X sts) := ⟨fun _ _ _ _ _ I h => h _ _ I⟩
theorem we_of {t : TE} {Q : VK} (p : PE X e t) (h : t σ H Q) : WE X e σ H Q := fun pins s I => p.run pins s σ H Q I h
theorem wt_of {t : TT} {Q : Bool → Hp → Prop} (p : PT X e t) (h : t σ H Q) : WT X e σ H Q := fun pins s I => p.run pins s σ H Q I h
theorem wa_of {t : TA} {Q : List V → Hp → Prop} (p : PA X es t) (h : t σ H Q) : WA X es σ H Q := fun pos pins s I => p.run pos pins s σ H Q I h
theorem ws_of {t : TS} {D : Ends} (p : PS X st t) (h : t D σ H) : WS X st D σ H := fun pins s I => p.run pins s σ H D I h
theorem wb_of {t : TS} {D : Ends} (p : PSs X sts t) (h : t D σ H) : WB X sts D σ H := fun pins s I => p.run pins s σ H D I h
theorem wb_nil {D : Ends} (h : D.nx σ H) : WB X [] D σ H := wb_of pss_nil h
theorem wb_cons {D : Ends} (h : WS X st { D with nx := fun σ' H' => WB X sts D σ' H' } σ H) : WB X (st :: sts) D σ H := wb_of (pss_cons psw pbw) h
theorem wb_one {D : Ends} (h : WS X st D σ H) : WB X [st] D σ H := wb_of (pss_one psw) h
end

/-! ### heaps -/
abbrev Ex (H H' : Hp) : Prop := ∀ a o, H a = some o → H' a = some o
theorem Ex.rfl' {H : Hp} : Ex H H := fun _ _ h => h
theorem Ex.tr {H H1 H2 : Hp} (a : Ex H H1) (b : Ex H1 H2) : Ex H H2 := fun x o h => b x o (a x o h)
theorem Ex.new {H : Hp} {p : Addr} {o : HO} (h : H p = none) : Ex H (upd H p o) := fun a u e => by
  rw [upd_ne (ne_of_none e h)]
  exact e
theorem Ex.back {H H' : Hp} {p : Addr} (e : Ex H H') (h : H' p = none) : H p = none := by
  cases h1 : H p with
  | none => rfl
  | some o =>
    rw [e p o h1] at h
    cases h
/-- the heap without what may still change -/
def hide (M : List Addr) (H : Hp) : Hp := fun a => if a ∈ M then none else H a
theorem hide_nil {H : Hp} : hide [] H = H := by
  funext a
  simp [hide]
theorem hide_out {M : List Addr} {H : Hp} {a : Addr} (h : a ∉ M) : hide M H a = H a := by simp [hide, h]
theorem hide_in {M : List Addr} {H : Hp} {a : Addr} (h : a ∈ M) : hide M H a = none := by simp [hide, h]
theorem hide_some {M : List Addr} {H : Hp} {a : Addr} {o : HO} (h : hide M H a = some o) : a ∉ M ∧ H a = some o := by
  by_cases hm : a ∈ M
  · rw [hide_in hm] at h
    cases h
  · rw [hide_out hm] at h
    exact ⟨hm, h⟩
theorem Ex.hide {M : List Addr} {H H' : Hp} (e : Ex H H') : Ex (hide M H) (hide M H') := fun a o h => by
  obtain ⟨h1, h2⟩ := hide_some h
  rw [hide_out h1]
  exact e a o h2
theorem hide_le {M : List Addr} {H : Hp} : Ex (hide M H) H := fun a o h => (hide_some h).2
/-- writing at a hidden place is not seen -/
theorem hide_upd {M : List Addr} {H : Hp} {a : Addr} {o : HO} (h : a ∈ M) : hide M (upd H a o) = hide M H := by
  funext b
  by_cases hb : b ∈ M
  · rw [hide_in hb, hide_in hb]
  · rw [hide_out hb, hide_out hb, upd_ne (fun z => hb (by rw [z]; exact h))]
/-- a new object that is to change -/
theorem hide_new {M : List Addr} {H : Hp} {a : Addr} {o : HO} (h : H a = none) : hide (a :: M) (upd H a o) = hide M H := by
  funext b
  by_cases hb : b = a
  · subst hb
    rw [hide_in List.mem_cons_self]
    by_cases hm : b ∈ M
    · rw [hide_in hm]
    · rw [hide_out hm, h]
  · by_cases hm : b ∈ M
    · rw [hide_in (List.mem_cons_of_mem _ hm), hide_in hm]
    · rw [hide_out (fun z => (List.mem_cons.mp z).elim hb hm), hide_out hm, upd_ne hb]
theorem hide_more {M : List Addr} {H : Hp} {a : Addr} : Ex (hide (a :: M) H) (hide M H) := fun b o h => by
  obtain ⟨h1, h2⟩ := hide_some h
  rw [hide_out (fun z => h1 (List.mem_cons_of_mem _ z))]
  exact h2
/-- M stands in H -/
def Dom (M : List Addr) (H : Hp) : Prop := ∀ a ∈ M, ∃ o, H a = some o
theorem Dom.nil {H : Hp} : Dom [] H := fun a h => by cases h
theorem Dom.ex {M : List Addr} {H H' : Hp} (d : Dom M H) (e : Ex H H') : Dom M H' := fun a h => let ⟨o, q⟩ := d a h; ⟨o, e a o q⟩
theorem Dom.upd {M : List Addr} {H : Hp} {a : Addr} {o : HO} (d : Dom M H) : Dom M (L2.upd H a o) := fun b h => by
  by_cases hb : b = a
  · subst hb
    exact ⟨o, upd_same⟩
  · rw [upd_ne hb]
    exact d b h
theorem Dom.cons {M : List Addr} {H : Hp} {a : Addr} {o : HO} (d : Dom M H) (h : H a = some o) : Dom (a :: M) H := fun b hb => by
  rcases List.mem_cons.mp hb with z | z
  · exact ⟨o, by rw [z]; exact h⟩
  · exact d b z
theorem Dom.fresh {M : List Addr} {H : Hp} {a : Addr} (d : Dom M H) (h : H a = none) : a ∉ M := fun z => by
  obtain ⟨o, q⟩ := d a z
  rw [q] at h
  cases h
theorem hide_newOut {M : List Addr} {H : Hp} {a : Addr} {o : HO} (d : Dom M H) (h : H a = none) : hide M (upd H a o) a = some o := by
  rw [hide_out (d.fresh h), upd_same]

/-- all stays but at F -/
def Bt (F : List Addr) (H H' : Hp) : Prop := ∀ a o, a ∉ F → H a = some o → H' a = some o
theorem Bt.ex {F : List Addr} {H H' : Hp} (e : Ex H H') : Bt F H H' := fun a o _ h => e a o h
theorem Bt.tr {F : List Addr} {H H1 H2 : Hp} (a : Bt F H H1) (b : Bt F H1 H2) : Bt F H H2 := fun x o n h => b x o n (a x o n h)
theorem Bt.up {F : List Addr} {H H1 : Hp} {q : Addr} {o : HO} (a : Bt F H H1) (h : q ∈ F) : Bt F H (upd H1 q o) := fun x u n z => by
  rw [upd_ne fun y => n (by rw [y]; exact h)]
  exact a x u n z
theorem Bt.hide {F M : List Addr} {H H' : Hp} (a : Bt F H H') (s : ∀ x ∈ F, x ∈ M) : Ex (hide M H) (hide M H') := fun x o h => by
  obtain ⟨h1, h2⟩ := hide_some h
  rw [hide_out h1]
  exact a x o (fun z => h1 (s x z)) h2
theorem Bt.sub {F F' : List Addr} {H H' : Hp} (a : Bt F H H') (s : ∀ x ∈ F, x ∈ F') : Bt F' H H' := fun x o n h => a x o (fun z => n (s x z)) h
theorem Bt.dom {F M : List Addr} {H H' : Hp} (a : Bt F H H') (d : Dom M H) (s : ∀ x ∈ F, ∃ o, H' x = some o) : Dom M H' := fun x hx => by
  by_cases h : x ∈ F
  · exact s x h
  · obtain ⟨o, q⟩ := d x hx
    exact ⟨o, a x o h q⟩
theorem Bt.dom1 {b : Addr} {M : List Addr} {H H' : Hp} {o : HO} (a : Bt [b] H H') (d : Dom M H) (h : H' b = some o) : Dom M H' := a.dom d fun x hx => by
  have e : x = b := List.mem_singleton.mp hx
  exact ⟨o, by rw [e]; exact h⟩
/-- what was known stays known when a new thing is to change -/
theorem hide_under {M : List Addr} {H H1 : Hp} {q : Addr} (h : H q = none) (e : Ex H H1) : Ex (hide M H) (hide (q :: M) H1) := fun a o z => by
  obtain ⟨h1, h2⟩ := hide_some z
  rw [hide_out fun y => (List.mem_cons.mp y).elim (ne_of_none h2 h) h1]
  exact e a o h2
theorem hide_underB {M F : List Addr} {H H1 : Hp} {q : Addr} (h : H q = none) (e : Bt F H H1) (s : ∀ x ∈ F, x ∈ M) : Ex (hide M H) (hide (q :: M) H1) := fun a o z => by
  obtain ⟨h1, h2⟩ := hide_some z
  rw [hide_out fun y => (List.mem_cons.mp y).elim (ne_of_none h2 h) h1]
  exact e a o (fun w => h1 (s a w)) h2
/-! ### data -/
theorem ex_rd {H H' : Hp} {a : Addr} {u : HO} (e : Ex H H') (h : Rd H a u) : Rd H' a u := by
  rcases h with h | ⟨o, h⟩
  · exact .inl (e a _ h)
  · exact .inr ⟨o, e a _ h⟩
theorem ex_l {K : PySem.W.Frag} {H H' : Hp} {a : Addr} {xs : List V} (e : Ex H H') (h : SqL K H a xs) : SqL K H' a xs := by
  rcases h with h | h
  · exact .inl (ex_rd e h)
  · exact .inr h
theorem ex_t {K : PySem.W.Frag} {H H' : Hp} {a : Addr} {xs : List V} (e : Ex H H') (h : SqT K H a xs) : SqT K H' a xs := by
  rcases h with h | h
  · exact .inl (ex_rd e h)
  · exact .inr h
class Enc (α : Type) where
  den : PySem.W.Frag → Hp → V → α → Prop
  mono : ∀ {K : PySem.W.Frag} {H H' : Hp} {v : V} {a : α}, Ex H H' → den K H v a → den K H' v a
open Enc (den)
instance : Enc V := ⟨fun _ _ v a => v = a, fun _ h => h⟩
instance : Enc Int := ⟨fun _ _ v a => v = .int a, fun _ h => h⟩
instance : Enc Nat := ⟨fun _ _ v a => v = .int (a : Int), fun _ h => h⟩
instance : Enc Bool := ⟨fun _ _ v a => v = .bl a, fun _ h => h⟩
instance : Enc Str := ⟨fun _ _ v a => v = .str a, fun _ h => h⟩
instance : Enc Unit := ⟨fun _ _ v _ => v = .non, fun _ h => h⟩
/-- the same number of things, one by one -/
inductive All2 {α β : Type} (R : α → β → Prop) : List α → List β → Prop
  | nil : All2 R [] []
  | cons {a b l m} : R a b → All2 R l m → All2 R (a :: l) (b :: m)
namespace All2
variable {α β : Type} {R S : α → β → Prop}
theorem imp (h : ∀ a b, R a b → S a b) : ∀ {l : List α} {m : List β}, All2 R l m → All2 S l m
  | _, _, .nil => .nil
  | _, _, .cons r t => .cons (h _ _ r) (imp h t)
theorem len : ∀ {l : List α} {m : List β}, All2 R l m → l.length = m.length
  | _, _, .nil => rfl
  | _, _, .cons _ t => congrArg (· + 1) (len t)
theorem app : ∀ {l l' : List α} {m m' : List β}, All2 R l m → All2 R l' m' → All2 R (l ++ l') (m ++ m')
  | _, _, _, _, .nil, q => q
  | _, _, _, _, .cons r t, q => .cons r (app t q)
theorem get : ∀ {l : List α} {m : List β} {i : Nat} {b : β}, All2 R l m → m[i]? = some b → ∃ a, l[i]? = some a ∧ R a b
  | _, _, _, _, .nil, h => by simp at h
  | _, _, 0, b, .cons r t, h => by
    simp at h
    subst h
    exact ⟨_, rfl, r⟩
  | _, _, i + 1, b, .cons r t, h => by
    obtain ⟨a, h1, h2⟩ := get (i := i) (b := b) t (by simpa using h)
    exact ⟨a, by simpa using h1, h2⟩
theorem get' : ∀ {l : List α} {m : List β} {i : Nat} {a : α}, All2 R l m → l[i]? = some a → ∃ b, m[i]? = some b ∧ R a b
  | _, _, _, _, .nil, h => by simp at h
  | _, _, 0, b, .cons r t, h => by
    simp at h
    subst h
    exact ⟨_, rfl, r⟩
  | _, _, i + 1, b, .cons r t, h => by
    obtain ⟨a, h1, h2⟩ := get' (i := i) (a := b) t (by simpa using h)
    exact ⟨a, by simpa using h1, h2⟩
theorem mapL {γ : Type} {f : γ → α} : ∀ {l : List γ} {m : List β}, All2 (fun c b => R (f c) b) l m → All2 R (l.map f) m
  | _, _, .nil => .nil
  | _, _, .cons r t => .cons r (mapL t)
theorem ofMap {f : β → α} : ∀ {m : List β}, (∀ b ∈ m, R (f b) b) → All2 R (m.map f) m
  | [], _ => .nil
  | b :: m, h => .cons (h b List.mem_cons_self) (ofMap fun c hc => h c (List.mem_cons_of_mem _ hc))
theorem eqMap {f : β → α} : ∀ {l : List α} {m : List β}, All2 (fun a b => a = f b) l m → l = m.map f
  | _, _, .nil => rfl
  | _, _, .cons r t => by rw [r, eqMap t]; rfl
end All2
/-- lists -/
instance {α : Type} [Enc α] : Enc (List α) where
  den K H v as := ∃ p vs, v = .ref p ∧ SqL K H p vs ∧ All2 (den K H) vs as
  mono e h := by
    obtain ⟨p, vs, h1, h2, h3⟩ := h
    exact ⟨p, vs, h1, ex_l e h2, h3.imp fun _ _ => Enc.mono e⟩
/-- pairs -/
instance {α β : Type} [Enc α] [Enc β] : Enc (α × β) where
  den K H v c := ∃ p x y, v = .ref p ∧ SqT K H p [x, y] ∧ den K H x c.1 ∧ den K H y c.2
  mono e h := by
    obtain ⟨p, x, y, h1, h2, h3, h4⟩ := h
    exact ⟨p, x, y, h1, ex_t e h2, Enc.mono e h3, Enc.mono e h4⟩
/-- what is never None -/
class EncN (α : Type) extends Enc α where
  nn : ∀ {K : PySem.W.Frag} {H : Hp} {v : V} {a : α}, den K H v a → v ≠ .non
instance : EncN Int := { (inferInstance : Enc Int) with nn := fun h => by rw [h]; intro z; cases z }
instance : EncN Str := { (inferInstance : Enc Str) with nn := fun h => by rw [h]; intro z; cases z }
instance {α : Type} [Enc α] : EncN (List α) := { (inferInstance : Enc (List α)) with nn := fun h => by obtain ⟨p, vs, h1, _⟩ := h; rw [h1]; intro z; cases z }
instance {α β : Type} [Enc α] [Enc β] : EncN (α × β) := { (inferInstance : Enc (α × β)) with nn := fun h => by obtain ⟨p, x, y, h1, _⟩ := h; rw [h1]; intro z; cases z }
instance {α : Type} [Enc α] : Enc (Option α) where
  den K H v o := match o with
    | none => v = .non
    | some a => den K H v a
  mono e h := by
    rename_i o
    cases o with
    | none => exact h
    | some a => exact Enc.mono (α := α) e h
/-- dicts with texts as keys -/
structure Dct (β : Type) where
  kv : List (Str × β)
instance {β : Type} [Enc β] : EncN (Dct β) where
  den K H v d := ∃ p o kvs, v = .ref p ∧ H p = some (.frz o (.dK kvs)) ∧ All2 (fun (q : Key × V) (z : Str × β) => q.1 = Sum.inr z.1 ∧ den K H q.2 z.2) kvs d.kv
  mono e h := by
    obtain ⟨p, o, kvs, h1, h2, h3⟩ := h
    exact ⟨p, o, kvs, h1, e p _ h2, h3.imp fun _ _ z => ⟨z.1, Enc.mono e z.2⟩⟩
  nn h := by
    obtain ⟨p, o, kvs, h1, _⟩ := h
    rw [h1]
    intro z
    cases z
end Tm
set_option maxHeartbeats 2000000
namespace Tm
open PySem PySem.Spec PyProof.Rows L2
open Enc (den)
/-! ### what an expression is worth: nothing that stands is changed -/
def VE (X : Cx) (M : List Addr) {α : Type} [Enc α] (σ : L2.St) (H : Hp) (e : Expr) (a : α) : Prop :=
  ∀ H1, Ex H H1 → Dom M H1 → ∀ Q : VK, (∀ v H2, Ex H1 H2 → den X.K (hide M H2) v a → Q v H2) → WE X e σ H1 Q
def VT (X : Cx) (M : List Addr) (σ : L2.St) (H : Hp) (e : Expr) (b : Bool) : Prop :=
  ∀ H1, Ex H H1 → Dom M H1 → ∀ Q : Bool → Hp → Prop, (∀ H2, Ex H1 H2 → Q b H2) → WT X e σ H1 Q
/-- a datum, whatever its type -/
structure Dt (K : PySem.W.Frag) where
  r : Hp → V → Prop
  mono : ∀ {H H' : Hp} {v : V}, Ex H H' → r H v → r H' v
def dt {K : PySem.W.Frag} {α : Type} [Enc α] (a : α) : Dt K := ⟨fun H v => den K H v a, Enc.mono⟩
def VA (X : Cx) (M : List Addr) (σ : L2.St) (H : Hp) (es : List Expr) (ds : List (Dt X.K)) : Prop :=
  ∀ H1, Ex H H1 → Dom M H1 → ∀ Q : List V → Hp → Prop, (∀ vs H2, Ex H1 H2 → All2 (fun v d => d.r (hide M H2) v) vs ds → Q vs H2) → WA X es σ H1 Q
section
variable {X : Cx} {M : List Addr} {σ : L2.St} {H H' : Hp} {e a b c : Expr} {es : List Expr} {pos p : Pos} {α β γ : Type} [Enc α] [Enc β] [Enc γ]
theorem VE.mono {x : α} (h : VE X M σ H e x) (q : Ex H H') : VE X M σ H' e x := fun H1 e1 => h H1 (Ex.tr q e1)
theorem VT.mono {x : Bool} (h : VT X M σ H e x) (q : Ex H H') : VT X M σ H' e x := fun H1 e1 => h H1 (Ex.tr q e1)
theorem VA.mono {ds : List (Dt X.K)} (h : VA X M σ H es ds) (q : Ex H H') : VA X M σ H' es ds := fun H1 e1 => h H1 (Ex.tr q e1)
theorem VE.is {x y : α} (h : VE X M σ H e x) (q : x = y) : VE X M σ H e y := q ▸ h
theorem VT.is {x y : Bool} (h : VT X M σ H e x) (q : x = y) : VT X M σ H e y := q ▸ h
/-- from a rule whose reading is told at every later heap -/
theorem ve_rule {t : TE} {x : α} (p : PE X e t) (h : ∀ H1, Ex H H1 → Dom M H1 → ∀ Q : VK, (∀ v H2, Ex H1 H2 → den X.K (hide M H2) v x → Q v H2) → t σ H1 Q) : VE X M σ H e x := fun H1 e1 d Q q => we_of p (h H1 e1 d Q q)
theorem vt_rule {t : TT} {x : Bool} (p : PT X e t) (h : ∀ H1, Ex H H1 → Dom M H1 → ∀ Q : Bool → Hp → Prop, (∀ H2, Ex H1 H2 → Q x H2) → t σ H1 Q) : VT X M σ H e x := fun H1 e1 d Q q => wt_of p (h H1 e1 d Q q)
theorem ve_var (i : Nat) {x : Str} {v : V} {y : α} (hv : σ[i]? = some (some v)) (hd : den X.K (hide M H) v y) (hN : X.N[i]? = some x := by rfl) (hs : Vis X.env.scope x := by first | exact Or.inl rfl | exact Or.inr (Or.inl rfl) | exact Or.inr (Or.inr rfl))
    (h1 : (x == ("__debug__" : Str)) = false := by decide) (h2 : (x == ("__classdict__" : Str)) = false := by decide) : VE X M σ H (.Name x pos) y :=
  ve_rule (pe_var hN hs h1 h2) fun H1 e1 _ Q q => ⟨v, hv, q v H1 Ex.rfl' (Enc.mono (Ex.hide e1) hd)⟩
/-- a name's value as it is -/
theorem ve_raw (i : Nat) {x : Str} {v : V} (hv : σ[i]? = some (some v)) (hN : X.N[i]? = some x := by rfl) (hs : Vis X.env.scope x := by first | exact Or.inl rfl | exact Or.inr (Or.inl rfl) | exact Or.inr (Or.inr rfl))
    (h1 : (x == ("__debug__" : Str)) = false := by decide) (h2 : (x == ("__classdict__" : Str)) = false := by decide) : VE X M σ H (.Name x pos) v := ve_var i hv rfl hN hs h1 h2
theorem ve_int {i : Int} {j : Nat} : VE X M σ H (.Constant (.int i) j pos) i := ve_rule pe_int fun H1 _ _ Q q => q _ H1 Ex.rfl' rfl
theorem ve_str {x : Str} {j : Nat} : VE X M σ H (.Constant (.str x) j pos) x := ve_rule pe_str fun H1 _ _ Q q => q _ H1 Ex.rfl' rfl
theorem ve_bl {x : Bool} {j : Nat} : VE X M σ H (.Constant (.bool x) j pos) x := ve_rule pe_bl fun H1 _ _ Q q => q _ H1 Ex.rfl' rfl
theorem ve_unit {j : Nat} : VE X M σ H (.Constant .none j pos) () := ve_rule pe_non fun H1 _ _ Q q => q _ H1 Ex.rfl' rfl
theorem ve_none {j : Nat} : VE X M σ H (.Constant .none j pos) (none : Option α) := ve_rule pe_non fun H1 _ _ Q q => q _ H1 Ex.rfl' rfl
theorem ve_some {x : α} (h : VE X M σ H e x) : VE X M σ H e (some x) := h
theorem ve_globS {x z : Str} {t : Tok} (hm : X.mg x = some (.str z t)) (hg : Gl X x := by rfl) (h1 : (x == ("__debug__" : Str)) = false := by decide) : VE X M σ H (.Name x pos) z := ve_rule (pe_glob (v := .str z) hg hm ⟨t, rfl⟩ h1) fun H1 _ _ Q q => q _ H1 Ex.rfl' rfl
theorem ve_globI {x : Str} {z : Int} {t : Tok} (hm : X.mg x = some (.int z t)) (hg : Gl X x := by rfl) (h1 : (x == ("__debug__" : Str)) = false := by decide) : VE X M σ H (.Name x pos) z := ve_rule (pe_glob (v := .int z) hg hm ⟨t, rfl⟩ h1) fun H1 _ _ Q q => q _ H1 Ex.rfl' rfl
/-- two things, one behind the other -/
theorem two {x : α} {y : β} (ha : VE X M σ H a x) (hb : VE X M σ H b y) {H1 : Hp} (e1 : Ex H H1) (d : Dom M H1) {Q : V → V → Hp → Prop} (q : ∀ v u H2, Ex H1 H2 → Dom M H2 → den X.K (hide M H2) v x → den X.K (hide M H2) u y → Q v u H2) :
    WE X a σ H1 fun v H2 => WE X b σ H2 fun u H3 => Q v u H3 :=
  ha H1 e1 d _ fun v H2 e2 dv => hb H2 (Ex.tr e1 e2) (d.ex e2) _ fun u H3 e3 du => q v u H3 (Ex.tr e2 e3) (d.ex (Ex.tr e2 e3)) (Enc.mono (Ex.hide e3) dv) du
theorem ve_add {i j : Int} (ha : VE X M σ H a i) (hb : VE X M σ H b j) : VE X M σ H (.BinOp a .Add b pos) (i + j) := ve_rule (pe_op op_add pw pw) fun H1 e1 d Q q => two ha hb e1 d fun v u H2 e2 _ dv du => ⟨i, j, dv, du, q _ _ e2 rfl⟩
theorem ve_sub {i j : Int} (ha : VE X M σ H a i) (hb : VE X M σ H b j) : VE X M σ H (.BinOp a .Sub b pos) (i - j) := ve_rule (pe_op op_sub pw pw) fun H1 e1 d Q q => two ha hb e1 d fun v u H2 e2 _ dv du => ⟨i, j, dv, du, q _ _ e2 rfl⟩
theorem ve_mul {i j : Int} (ha : VE X M σ H a i) (hb : VE X M σ H b j) (hc : CMul i j) : VE X M σ H (.BinOp a .Mult b pos) (i * j) := ve_rule (pe_op op_mul pw pw) fun H1 e1 d Q q => two ha hb e1 d fun v u H2 e2 _ dv du => ⟨i, j, dv, du, hc, q _ _ e2 rfl⟩
theorem ve_mod {i j : Int} (ha : VE X M σ H a i) (hb : VE X M σ H b j) (hc : 0 < j) : VE X M σ H (.BinOp a .Mod b pos) (i % j) := ve_rule (pe_op op_mod pw pw) fun H1 e1 d Q q => two ha hb e1 d fun v u H2 e2 _ dv du => ⟨i, j, dv, du, hc, q _ _ e2 rfl⟩
theorem ve_fdiv {i j : Int} (ha : VE X M σ H a i) (hb : VE X M σ H b j) (hc : 0 < j ∧ j < 1073741824) : VE X M σ H (.BinOp a .FloorDiv b pos) (i / j) := ve_rule (pe_op op_fdiv pw pw) fun H1 e1 d Q q => two ha hb e1 d fun v u H2 e2 _ dv du => ⟨i, j, dv, du, hc, q _ _ e2 rfl⟩
theorem ve_pow {i j : Int} (ha : VE X M σ H a i) (hb : VE X M σ H b j) (hc : 0 ≤ j ∧ j ≤ 1000000 ∧ i.natAbs < 2 ^ 64) : VE X M σ H (.BinOp a .Pow b pos) (i ^ j.toNat) := ve_rule (pe_op op_pow pw pw) fun H1 e1 d Q q => two ha hb e1 d fun v u H2 e2 _ dv du => ⟨i, j, dv, du, hc, q _ _ e2 rfl⟩
/-! comparisons -/
def WC (X : Cx) (op : CmpOp) (a b : Expr) : TE := fun σ H Q => ∀ pins s, Inv X pins σ H s →
    wpAny (model X.prog X.w) X.A (eval a X.env) (fun v s₁ => wpAny (model X.prog X.w) X.A (eval b X.env) (fun u s₂ => wpAny (model X.prog X.w) X.A (compareOp op v u) (EP X pins σ Q) X.xe s₂) X.xe s₁) X.xe s
def VC (X : Cx) (M : List Addr) (σ : L2.St) (H : Hp) (op : CmpOp) (a b : Expr) (y : Bool) : Prop :=
  ∀ H1, Ex H H1 → Dom M H1 → ∀ Q : VK, (∀ H2, Ex H1 H2 → Q (.bl y) H2) → WC X op a b σ H1 Q
theorem pcw {op : CmpOp} : PC X op a b (WC X op a b) := ⟨fun _ _ _ _ _ I h => h _ _ I⟩
theorem pc_op {op : CmpOp} {r : R2} (ho : OpR X (compareOp op) r) : PC X op a b (tOp r (WE X a) (WE X b)) := ⟨fun pins s σ H Q I h => bin pw pw I h fun v u s2 x y H2 I2 rx ry q => ho pins s2 σ H2 x y v u Q I2 rx ry q⟩
theorem vc_rule {op : CmpOp} {t : TE} {y : Bool} (p : PC X op a b t) (h : ∀ H1, Ex H H1 → Dom M H1 → ∀ Q : VK, (∀ H2, Ex H1 H2 → Q (.bl y) H2) → t σ H1 Q) : VC X M σ H op a b y := fun H1 e1 d Q q pins s I => p.run pins s σ H1 Q I (h H1 e1 d Q q)
theorem VC.ve {op : CmpOp} {y : Bool} (h : VC X M σ H op a b y) (h1 : behindInMarks op b = false := by first | exact nobehind _ (by decide) (by decide) | rfl) : VE X M σ H (.Compare a [op] [b] pos) y := ve_rule (pe_cmp pcw h1) fun H1 e1 d Q q => h H1 e1 d _ fun H2 e2 => q _ H2 e2 rfl
theorem VC.vt {op : CmpOp} {y : Bool} (h : VC X M σ H op a b y) (h1 : behindInMarks op b = false := by first | exact nobehind _ (by decide) (by decide) | rfl) : VT X M σ H (.Compare a [op] [b] pos) y := vt_rule (pt_cmp pcw h1) fun H1 e1 d Q q => h H1 e1 d _ fun H2 e2 => ⟨y, rfl, q H2 e2⟩
theorem VC.is {op : CmpOp} {y z : Bool} (h : VC X M σ H op a b y) (q : y = z) : VC X M σ H op a b z := q ▸ h
theorem vc_lt {i j : Int} (ha : VE X M σ H a i) (hb : VE X M σ H b j) : VC X M σ H .Lt a b (decide (i < j)) := vc_rule (pc_op op_lt) fun H1 e1 d Q q => two ha hb e1 d fun v u H2 e2 _ dv du => ⟨i, j, dv, du, q _ e2⟩
theorem vc_le {i j : Int} (ha : VE X M σ H a i) (hb : VE X M σ H b j) : VC X M σ H .LtE a b (decide (i ≤ j)) := vc_rule (pc_op op_le) fun H1 e1 d Q q => two ha hb e1 d fun v u H2 e2 _ dv du => ⟨i, j, dv, du, q _ e2⟩
theorem vc_gt {i j : Int} (ha : VE X M σ H a i) (hb : VE X M σ H b j) : VC X M σ H .Gt a b (decide (j < i)) := vc_rule (pc_op op_gt) fun H1 e1 d Q q => two ha hb e1 d fun v u H2 e2 _ dv du => ⟨i, j, dv, du, q _ e2⟩
theorem vc_ge {i j : Int} (ha : VE X M σ H a i) (hb : VE X M σ H b j) : VC X M σ H .GtE a b (decide (j ≤ i)) := vc_rule (pc_op op_ge) fun H1 e1 d Q q => two ha hb e1 d fun v u H2 e2 _ dv du => ⟨i, j, dv, du, q _ e2⟩
theorem dec_inj {x y : α} [DecidableEq α] {f : α → V} (hf : ∀ a b, f a = f b → a = b) : decide (f x = f y) = decide (x = y) := by
  by_cases h : x = y
  · subst h; simp
  · rw [decide_eq_false h, decide_eq_false fun z => h (hf _ _ z)]
theorem vc_eqI {i j : Int} (ha : VE X M σ H a i) (hb : VE X M σ H b j) : VC X M σ H .Eq a b (decide (i = j)) := vc_rule (pc_op op_eq) fun H1 e1 d Q q => two ha hb e1 d fun v u H2 e2 _ dv du => by
  have z := dec_inj (x := i) (y := j) (f := V.int) fun _ _ z => V.int.inj z
  have q' := q H2 e2
  rw [dv, du]
  refine ⟨rfl, ?_⟩
  rw [z]
  exact q'
theorem vc_neI {i j : Int} (ha : VE X M σ H a i) (hb : VE X M σ H b j) : VC X M σ H .NotEq a b (!decide (i = j)) := vc_rule (pc_op op_ne) fun H1 e1 d Q q => two ha hb e1 d fun v u H2 e2 _ dv du => by
  have z := dec_inj (x := i) (y := j) (f := V.int) fun _ _ z => V.int.inj z
  have q' := q H2 e2
  rw [dv, du]
  refine ⟨rfl, ?_⟩
  rw [z]
  exact q'
theorem vc_eqS {i j : Str} (ha : VE X M σ H a i) (hb : VE X M σ H b j) : VC X M σ H .Eq a b (decide (i = j)) := vc_rule (pc_op op_eq) fun H1 e1 d Q q => two ha hb e1 d fun v u H2 e2 _ dv du => by
  have z := dec_inj (x := i) (y := j) (f := V.str) fun _ _ z => V.str.inj z
  have q' := q H2 e2
  rw [dv, du]
  refine ⟨rfl, ?_⟩
  rw [z]
  exact q'
theorem vc_neS {i j : Str} (ha : VE X M σ H a i) (hb : VE X M σ H b j) : VC X M σ H .NotEq a b (!decide (i = j)) := vc_rule (pc_op op_ne) fun H1 e1 d Q q => two ha hb e1 d fun v u H2 e2 _ dv du => by
  have z := dec_inj (x := i) (y := j) (f := V.str) fun _ _ z => V.str.inj z
  have q' := q H2 e2
  rw [dv, du]
  refine ⟨rfl, ?_⟩
  rw [z]
  exact q'
def ltS (i j : Str) : Bool := decide (i.cps.toList < j.cps.toList)
theorem vc_ltS {i j : Str} (ha : VE X M σ H a i) (hb : VE X M σ H b j) : VC X M σ H .Lt a b (ltS i j) := vc_rule (pc_op op_lt_str) fun H1 e1 d Q q => two ha hb e1 d fun v u H2 e2 _ dv du => ⟨i, j, dv, du, q _ e2⟩
/-- a <= b <= c of numbers -/
theorem ve_leLe {i j k : Int} (ha : VE X M σ H a i) (hb : VE X M σ H b j) (hc : VE X M σ H c k) (hm : lastMarks [CmpOp.LtE, CmpOp.LtE] [b, c] = false := by rfl) : VE X M σ H (.Compare a [.LtE, .LtE] [b, c] pos) (decide (i ≤ j) && decide (j ≤ k)) :=
  ve_rule (pe_chain op_le op_le pw pw pw (hm := hm)) fun H1 e1 d Q q => two ha hb e1 d fun v u H2 e2 d2 dv du => ⟨i, j, dv, du, decide (i ≤ j), rfl, by
    by_cases h : i ≤ j
    · rw [decide_eq_true h]
      refine iteT (hc H2 (Ex.tr e1 e2) d2 _ fun z H3 e3 dz => ⟨j, k, du, dz, q _ _ (Ex.tr e2 e3) ?_⟩)
      rw [decide_eq_true h, Bool.true_and]
      rfl
    · rw [decide_eq_false h]
      refine iteF (q _ _ e2 ?_)
      rw [decide_eq_false h, Bool.false_and]
      rfl⟩
theorem ve_leLt {i j k : Int} (ha : VE X M σ H a i) (hb : VE X M σ H b j) (hc : VE X M σ H c k) (hm : lastMarks [CmpOp.LtE, CmpOp.Lt] [b, c] = false := by rfl) : VE X M σ H (.Compare a [.LtE, .Lt] [b, c] pos) (decide (i ≤ j) && decide (j < k)) :=
  ve_rule (pe_chain op_le op_lt pw pw pw (hm := hm)) fun H1 e1 d Q q => two ha hb e1 d fun v u H2 e2 d2 dv du => ⟨i, j, dv, du, decide (i ≤ j), rfl, by
    by_cases h : i ≤ j
    · rw [decide_eq_true h]
      refine iteT (hc H2 (Ex.tr e1 e2) d2 _ fun z H3 e3 dz => ⟨j, k, du, dz, q _ _ (Ex.tr e2 e3) ?_⟩)
      rw [decide_eq_true h, Bool.true_and]
      rfl
    · rw [decide_eq_false h]
      refine iteF (q _ _ e2 ?_)
      rw [decide_eq_false h, Bool.false_and]
      rfl⟩
theorem vt_leLe {i j k : Int} (ha : VE X M σ H a i) (hb : VE X M σ H b j) (hc : VE X M σ H c k) (hm : lastMarks [CmpOp.LtE, CmpOp.LtE] [b, c] = false := by rfl) : VT X M σ H (.Compare a [.LtE, .LtE] [b, c] pos) (decide (i ≤ j) && decide (j ≤ k)) :=
  vt_rule (pt_chain op_le op_le pw pw pw (hm := hm)) fun H1 e1 d Q q => two ha hb e1 d fun v u H2 e2 d2 dv du => ⟨i, j, dv, du, decide (i ≤ j), rfl, by
    by_cases h : i ≤ j
    · rw [decide_eq_true h]
      refine iteT (hc H2 (Ex.tr e1 e2) d2 _ fun z H3 e3 dz => ⟨j, k, du, dz, _, rfl, ?_⟩)
      have q' := q H3 (Ex.tr e2 e3)
      rw [decide_eq_true h, Bool.true_and] at q'
      exact q'
    · rw [decide_eq_false h]
      refine iteF ⟨false, rfl, ?_⟩
      have q' := q H2 e2
      rw [decide_eq_false h, Bool.false_and] at q'
      exact q'⟩
theorem vt_leLt {i j k : Int} (ha : VE X M σ H a i) (hb : VE X M σ H b j) (hc : VE X M σ H c k) (hm : lastMarks [CmpOp.LtE, CmpOp.Lt] [b, c] = false := by rfl) : VT X M σ H (.Compare a [.LtE, .Lt] [b, c] pos) (decide (i ≤ j) && decide (j < k)) :=
  vt_rule (pt_chain op_le op_lt pw pw pw (hm := hm)) fun H1 e1 d Q q => two ha hb e1 d fun v u H2 e2 d2 dv du => ⟨i, j, dv, du, decide (i ≤ j), rfl, by
    by_cases h : i ≤ j
    · rw [decide_eq_true h]
      refine iteT (hc H2 (Ex.tr e1 e2) d2 _ fun z H3 e3 dz => ⟨j, k, du, dz, _, rfl, ?_⟩)
      have q' := q H3 (Ex.tr e2 e3)
      rw [decide_eq_true h, Bool.true_and] at q'
      exact q'
    · rw [decide_eq_false h]
      refine iteF ⟨false, rfl, ?_⟩
      have q' := q H2 e2
      rw [decide_eq_false h, Bool.false_and] at q'
      exact q'⟩
/-! None -/
theorem vc_isN {α : Type} [EncN α] {o : Option α} {j : Nat} {p' : Pos} (ha : VE X M σ H a o) : VC X M σ H .Is a (.Constant .none j p') (o.isNone) := vc_rule (pc_isN pw) fun H1 e1 d Q q => ha H1 e1 d _ fun v H2 e2 dv => by
  have e : decide (v = V.non) = o.isNone := by
    cases o with
    | none => rw [show v = .non from dv]; rfl
    | some x => exact decide_eq_false (EncN.nn (α := α) dv)
  rw [e]
  exact q H2 e2
theorem vc_isNotN {α : Type} [EncN α] {o : Option α} {j : Nat} {p' : Pos} (ha : VE X M σ H a o) : VC X M σ H .IsNot a (.Constant .none j p') (o.isSome) := vc_rule (pc_notN pw) fun H1 e1 d Q q => ha H1 e1 d _ fun v H2 e2 dv => by
  have e : (!decide (v = V.non)) = o.isSome := by
    cases o with
    | none => rw [show v = .non from dv]; rfl
    | some x => rw [decide_eq_false (EncN.nn (α := α) dv)]; rfl
  rw [e]
  exact q H2 e2
/-! and, or, not -/
theorem ve_one {op : BoolOp} {x : α} (h : VE X M σ H a x) : VE X M σ H (.BoolOp op [a] pos) x := ve_rule (pe_one pw) fun H1 e1 d Q q => h H1 e1 d Q q
theorem ve_and {rest : List Expr} {x y : Bool} (ha : VE X M σ H a x) (hb : x = true → VE X M σ H (.BoolOp .And (b :: rest) pos) y) : VE X M σ H (.BoolOp .And (a :: b :: rest) pos) (x && y) := ve_rule (pe_and pw pw) fun H1 e1 d Q q => ha H1 e1 d _ fun v H2 e2 dv => ⟨x, dv, by
  cases x with
  | true => exact iteT (hb rfl H2 (Ex.tr e1 e2) (d.ex e2) _ fun u H3 e3 du => q u H3 (Ex.tr e2 e3) du)
  | false => exact iteF (q _ _ e2 rfl)⟩
theorem ve_or {rest : List Expr} {x y : Bool} (ha : VE X M σ H a x) (hb : x = false → VE X M σ H (.BoolOp .Or (b :: rest) pos) y) : VE X M σ H (.BoolOp .Or (a :: b :: rest) pos) (x || y) := ve_rule (pe_or pw pw) fun H1 e1 d Q q => ha H1 e1 d _ fun v H2 e2 dv => ⟨x, dv, by
  cases x with
  | true => exact iteT (q _ _ e2 rfl)
  | false => exact iteF (hb rfl H2 (Ex.tr e1 e2) (d.ex e2) _ fun u H3 e3 du => q u H3 (Ex.tr e2 e3) du)⟩
theorem ve_not {x : Bool} (ha : VE X M σ H a x) : VE X M σ H (.UnaryOp .Not a pos) (!x) := ve_rule (pe_not pw) fun H1 e1 d Q q => ha H1 e1 d _ fun v H2 e2 dv => ⟨x, dv, q _ _ e2 rfl⟩
/-! tests -/
theorem vt_val {x : Bool} (h : VE X M σ H e x) (he : ∀ whole, isTrue e X.env whole = (do let v ← whole; standAt e.pos; holding [v] (truthy v)) := by intro _; rfl) : VT X M σ H e x := vt_rule (pt_val pw he) fun H1 e1 d Q q => h H1 e1 d _ fun v H2 e2 dv => ⟨x, dv, q H2 e2⟩
theorem vt_not {x : Bool} (h : VT X M σ H a x) : VT X M σ H (.UnaryOp .Not a pos) (!x) := vt_rule (pt_not ptw) fun H1 e1 d Q q => h H1 e1 d _ fun H2 e2 => q H2 e2
/-- and, or as tests -/
def VW (X : Cx) (M : List Addr) (σ : L2.St) (H : Hp) (e : Expr) (b : Bool) : Prop :=
  ∀ H1, Ex H H1 → Dom M H1 → ∀ (Q : Bool → Hp → Prop), (∀ H2, Ex H1 H2 → Q b H2) → ∀ (whole : Sem Value) pins s, Inv X pins σ H1 s → wpAny (model X.prog X.w) X.A (isTrue e X.env whole) (TP X pins σ Q) X.xe s
def tWW (X : Cx) (e : Expr) : TT := fun σ H Q => ∀ (whole : Sem Value) pins s, Inv X pins σ H s → wpAny (model X.prog X.w) X.A (isTrue e X.env whole) (TP X pins σ Q) X.xe s
theorem pww : PW X e (tWW X e) := ⟨fun _ _ _ _ _ _ I h => h _ _ _ I⟩
theorem VW.vt {x : Bool} (h : VW X M σ H e x) : VT X M σ H e x := fun H1 e1 d Q q pins s I => h H1 e1 d Q q _ pins s I
theorem vw_and1 {x : Bool} (h : VT X M σ H a x) : VW X M σ H (.BoolOp .And [a] pos) x := fun H1 e1 d Q q whole pins s I => (pw_and1 ptw).run whole pins s σ H1 Q I (h H1 e1 d Q q)
theorem vw_or1 {x : Bool} (h : VT X M σ H a x) : VW X M σ H (.BoolOp .Or [a] pos) x := fun H1 e1 d Q q whole pins s I => (pw_or1 ptw).run whole pins s σ H1 Q I (h H1 e1 d Q q)
theorem vw_and {rest : List Expr} {x y : Bool} (ha : VT X M σ H a x) (hb : x = true → VW X M σ H (.BoolOp .And (b :: rest) pos) y) : VW X M σ H (.BoolOp .And (a :: b :: rest) pos) (x && y) := fun H1 e1 d Q q whole pins s I => (pw_and ptw pww).run whole pins s σ H1 Q I (ha H1 e1 d _ fun H2 e2 => by
  cases x with
  | true => exact iteT (fun wh pins' s' I' => hb rfl H2 (Ex.tr e1 e2) (d.ex e2) _ (fun H3 e3 => q H3 (Ex.tr e2 e3)) wh pins' s' I')
  | false => exact iteF (q H2 e2))
theorem vw_or {rest : List Expr} {x y : Bool} (ha : VT X M σ H a x) (hb : x = false → VW X M σ H (.BoolOp .Or (b :: rest) pos) y) : VW X M σ H (.BoolOp .Or (a :: b :: rest) pos) (x || y) := fun H1 e1 d Q q whole pins s I => (pw_or ptw pww).run whole pins s σ H1 Q I (ha H1 e1 d _ fun H2 e2 => by
  cases x with
  | true => exact iteT (q H2 e2)
  | false => exact iteF (fun wh pins' s' I' => hb rfl H2 (Ex.tr e1 e2) (d.ex e2) _ (fun H3 e3 => q H3 (Ex.tr e2 e3)) wh pins' s' I'))
theorem ve_ifExp {x : Bool} {y : α} (hc : VT X M σ H c x) (ha : x = true → VE X M σ H a y) (hb : x = false → VE X M σ H b y) : VE X M σ H (.IfExp c a b pos) y := ve_rule (pe_ifExp ptw pw pw) fun H1 e1 d Q q => hc H1 e1 d _ fun H2 e2 => by
  cases x with
  | true => exact iteT (ha rfl H2 (Ex.tr e1 e2) (d.ex e2) _ fun u H3 e3 du => q u H3 (Ex.tr e2 e3) du)
  | false => exact iteF (hb rfl H2 (Ex.tr e1 e2) (d.ex e2) _ fun u H3 e3 du => q u H3 (Ex.tr e2 e3) du)
/-! argument lists, displays -/
theorem va_nil : VA X M σ H [] [] := fun H1 e1 d Q q => wa_of pa_nil (q [] H1 Ex.rfl' .nil)
theorem va_cons {x : α} {ds : List (Dt X.K)} (h : VE X M σ H e x) (hr : VA X M σ H es ds) (hs : starEach (e :: es) X.env = (false, eval e X.env) :: starEach es X.env := by rfl) : VA X M σ H (e :: es) (dt x :: ds) := fun H1 e1 d Q q =>
  wa_of (pa_cons pw paw hs) (h H1 e1 d _ fun v H2 e2 dv => hr H2 (Ex.tr e1 e2) (d.ex e2) _ fun vs H3 e3 dvs => q (v :: vs) H3 (Ex.tr e2 e3) (.cons (Enc.mono (Ex.hide e3) dv) dvs))
theorem sz {n : Nat} (h : n ≤ 100000) : n ≤ sizeLine := Nat.le_trans h (by decide)
theorem szl {n : Nat} (h : n < 100000) : n < sizeLine := Nat.lt_of_lt_of_le h (by decide)
theorem sq_new {K : PySem.W.Frag} {H : Hp} {q : Addr} {vs : List V} (d : Dom M H) (h : H q = none) : SqL K (hide M (upd H q (.lst vs))) q vs := .inl (.inl (hide_newOut d h))
theorem st_new {K : PySem.W.Frag} {H : Hp} {q : Addr} {vs : List V} (d : Dom M H) (h : H q = none) : SqT K (hide M (upd H q (.tup vs))) q vs := .inl (.inl (hide_newOut d h))
theorem ve_pair {x : α} {y : β} {cx} (ha : VE X M σ H a x) (hb : VE X M σ H b y) (h1 : starEach [a, b] X.env = (false, eval a X.env) :: starEach [b] X.env := by rfl) (h2 : starEach [b] X.env = (false, eval b X.env) :: starEach [] X.env := by rfl) : VE X M σ H (.Tuple [a, b] cx pos) (x, y) :=
  ve_rule (pe_tup (pa_cons pw (pa_cons pw pa_nil h2) h1)) fun H1 e1 d Q q => two ha hb e1 d fun v u H2 e2 d2 dv du => ⟨sz (show 2 ≤ 100000 by decide), fun p hp => q _ _ (Ex.tr e2 (Ex.new hp)) ⟨p, v, u, rfl, st_new d2 hp, Enc.mono (Ex.hide (Ex.new hp)) dv, Enc.mono (Ex.hide (Ex.new hp)) du⟩⟩
theorem ve_lst {xs : List α} (h : VA X M σ H es (xs.map dt)) (hl : xs.length ≤ 100000) : VE X M σ H (.List es pos) xs := ve_rule (pe_lst paw) fun H1 e1 d Q q => h H1 e1 d _ fun vs H2 e2 dvs => by
  have hlen := dvs.len
  rw [List.length_map] at hlen
  refine ⟨sz (by omega), fun p hp => q _ _ (Ex.tr e2 (Ex.new hp)) ⟨p, vs, rfl, sq_new (d.ex e2) hp, ?_⟩⟩
  have go : ∀ {vs : List V} {xs : List α}, All2 (fun v (d : Dt X.K) => d.r (hide M H2) v) vs (xs.map dt) → All2 (den X.K (hide M (upd H2 p (.lst vs)))) vs xs := by
    intro vs xs
    generalize hw : (upd H2 p (.lst vs)) = H3
    have e3 : Ex H2 H3 := hw ▸ Ex.new hp
    clear hw
    induction xs generalizing vs with
    | nil =>
      intro h
      cases h
      exact .nil
    | cons x xs ih =>
      intro h
      cases h with
      | cons r t => exact .cons (Enc.mono (Ex.hide e3) r) (ih t)
  exact go dvs
end
end Tm
set_option maxHeartbeats 2000000
namespace Tm
open PySem PySem.Spec PyProof.Rows L2
open Enc (den)
/-! ### statements -/
section
variable {X : Cx} {M : List Addr} {σ : L2.St} {H H' : Hp} {e o ix a b c : Expr} {es : List Expr} {pos p p' : Pos} {α β γ : Type} [Enc α] [Enc β] [Enc γ] {rest bd bd' : List Stmt} {D : Ends} {i : Nat} {x : Str}
theorem wb_setW (nd : X.N.Nodup) (h : WE X e σ H fun v H1 => WB X rest D (σ.set i (some v)) H1) (hi : X.N[i]? = some x := by rfl) (hx : Loc X.env.scope x := by first | exact Or.inl rfl | exact Or.inr rfl) (hs : swapsWith e (some (.Name x p)) pos.line X.env = pure false := by rfl)
    (hf : X.fn x = true ∨ X.env.scope.names.lookup x = some .local := by first | exact .inl rfl | exact .inr rfl) : WB X (.Assign [.Name x p] e pos :: rest) D σ H := wb_cons (ws_of (ps_set nd hi hx pw hs hf) h)
theorem wb_set {y : α} (nd : X.N.Nodup) (d : Dom M H) (h : VE X M σ H e y) (k : ∀ v H1, Ex H H1 → den X.K (hide M H1) v y → WB X rest D (σ.set i (some v)) H1) (hi : X.N[i]? = some x := by rfl) (hx : Loc X.env.scope x := by first | exact Or.inl rfl | exact Or.inr rfl) (hs : swapsWith e (some (.Name x p)) pos.line X.env = pure false := by rfl)
    (hf : X.fn x = true ∨ X.env.scope.names.lookup x = some .local := by first | exact .inl rfl | exact .inr rfl) : WB X (.Assign [.Name x p] e pos :: rest) D σ H := wb_setW nd (h H Ex.rfl' d _ k) hi hx hs hf
theorem wb_retW (h : WE X e σ H D.rt) : WB X (.Return (some e) pos :: rest) D σ H := wb_cons (ws_of (ps_ret pw) h)
theorem wb_ret {y : α} (d : Dom M H) (h : VE X M σ H e y) (k : ∀ v H1, Ex H H1 → den X.K (hide M H1) v y → D.rt v H1) : WB X (.Return (some e) pos :: rest) D σ H := wb_retW (h H Ex.rfl' d _ k)
theorem wb_exprW (h : WE X e σ H fun _ H1 => WB X rest D σ H1) (hs : swapsWith e none pos.line X.env = pure false := by rfl) : WB X (.Expr e pos :: rest) D σ H := wb_cons (ws_of (ps_expr pw hs) h)
theorem wb_ifW (h : WT X c σ H fun b H1 => if b = true then WB X bd { D with nx := fun σ' H' => WB X rest D σ' H' } σ H1 else WB X bd' { D with nx := fun σ' H' => WB X rest D σ' H' } σ H1) : WB X (.If c bd bd' pos :: rest) D σ H := wb_cons (ws_of (ps_if ptw pbw pbw) h)
theorem wb_if {y : Bool} (d : Dom M H) (h : VT X M σ H c y) (h1 : y = true → ∀ H1, Ex H H1 → WB X bd { D with nx := fun σ' H' => WB X rest D σ' H' } σ H1) (h2 : y = false → ∀ H1, Ex H H1 → WB X bd' { D with nx := fun σ' H' => WB X rest D σ' H' } σ H1) : WB X (.If c bd bd' pos :: rest) D σ H :=
  wb_ifW (h H Ex.rfl' d _ fun H1 e1 => by
    cases y with
    | true => exact iteT (h1 rfl H1 e1)
    | false => exact iteF (h2 rfl H1 e1))
/-- an if without else -/
theorem wb_when {y : Bool} (d : Dom M H) (h : VT X M σ H c y) (h1 : y = true → ∀ H1, Ex H H1 → WB X bd { D with nx := fun σ' H' => WB X rest D σ' H' } σ H1) (h2 : y = false → ∀ H1, Ex H H1 → WB X rest D σ H1) : WB X (.If c bd [] pos :: rest) D σ H :=
  wb_if d h h1 fun hy H1 e1 => wb_nil (h2 hy H1 e1)
theorem ws_mono {st : Stmt} {Mid : L2.St → Hp → Prop} {D' : Ends} (h : WS X st D' σ H) (k : ∀ σ' H', D'.nx σ' H' → Mid σ' H') : WS X st { D' with nx := Mid } σ H := fun pins s I => thn (h pins s I) fun f s1 q => by
  cases f with
  | next =>
    obtain ⟨σ', H', I', q⟩ := q
    exact ⟨σ', H', I', k σ' H' q⟩
  | ret v => exact q
  | brk => exact q
  | cont => exact q
/-- a statement, with a word between it and the rest -/
theorem wb_cut {st : Stmt} (Mid : L2.St → Hp → Prop) (h : WS X st { D with nx := Mid } σ H) (k : ∀ σ' H', Mid σ' H' → WB X rest D σ' H') : WB X (st :: rest) D σ H := wb_cons (ws_mono (D' := { D with nx := Mid }) h k)
theorem ws_if {y : Bool} (d : Dom M H) (h : VT X M σ H c y) (h1 : y = true → ∀ H1, Ex H H1 → WB X bd D σ H1) (h2 : y = false → ∀ H1, Ex H H1 → WB X bd' D σ H1) : WS X (.If c bd bd' pos) D σ H :=
  ws_of (ps_if ptw pbw pbw) (h H Ex.rfl' d _ fun H1 e1 => by
    cases y with
    | true => exact iteT (h1 rfl H1 e1)
    | false => exact iteF (h2 rfl H1 e1))
theorem ws_when {y : Bool} (d : Dom M H) (h : VT X M σ H c y) (h1 : y = true → ∀ H1, Ex H H1 → WB X bd D σ H1) (h2 : y = false → ∀ H1, Ex H H1 → D.nx σ H1) : WS X (.If c bd [] pos) D σ H := ws_if d h h1 fun hy H1 e1 => wb_nil (h2 hy H1 e1)
/-- xs[i] = e, xs a list that may change -/
theorem wb_setL {l : Addr} {xs : List V} {j : Nat} {k : Int} {y : α} (d : Dom M H) (h : VE X M σ H e y) (ho : VE X M σ H o (V.ref l)) (hix : VE X M σ H ix k) (hl : H l = some (.lst xs)) (hj : ixN xs.length k = some j)
    (kk : ∀ v H1, Ex H H1 → den X.K (hide M H1) v y → WB X rest D σ (upd H1 l (.lst (xs.set j v))))
    (ha : ∀ v, assign (.Subscript o ix p) X.env v = (do
      let ov ← holding [v] (eval o X.env)
      let iv ← holding [v, ov] (eval ix X.env)
      standAt p
      holding [v, ov, iv] (setItem ov iv v)
      release [v, ov, iv] []) := by intro _; rfl)
    (hs : swapsWithSole [.Subscript o ix p] e pos.line X.env = pure false := by rfl) (hw : swappedStores [.Subscript o ix p] e X.env = pure none := by rfl)
    (h1 : (assignEach [.Subscript o ix p] X.env).map (·.2) = [assign (.Subscript o ix p) X.env] := by rfl) : WB X (.Assign [.Subscript o ix p] e pos :: rest) D σ H :=
  wb_cons (ws_of (ps_asg pw (pg_sub pw pw set_list ha) hs hw h1) (h H Ex.rfl' d _ fun v H1 e1 dv => ho H1 e1 (d.ex e1) _ fun u H2 e2 du => hix H2 (Ex.tr e1 e2) (d.ex (Ex.tr e1 e2)) _ fun w H3 e3 dw =>
    ⟨l, xs, k, j, du, dw, Ex.tr (Ex.tr e1 e2) e3 l _ hl, hj, kk v H3 (Ex.tr (Ex.tr e1 e2) e3) (Enc.mono (Ex.hide (Ex.tr e2 e3)) dv)⟩))
end

/-! ### calls -/
/-- a def of the module, by its name -/
def FN (P : Program) (w : World) (K : PySem.W.Frag) (mg : Str → Option Value) (base : Heap) (x : Str) (k : Nat) (sp : Sp) : Prop :=
  ∃ f fd ps, FnOk P w K mg base (L2.CX P w) k f fd ps sp ∧ mg x = some (.ref f) ∧ PySem.W.keepIn K (.ref f) = true ∧ Binds K fd ps []
/-- a method of a class -/
def ME (P : Program) (w : World) (K : PySem.W.Frag) (mg : Str → Option Value) (base : Heap) (C : Addr) (m : Str) (k : Nat) (sp : Sp) : Prop :=
  ∃ f fd ps, FnOk P w K mg base (L2.CX P w) k f fd ps sp ∧ Meth K C m f ∧ Binds K fd ps []
section
variable {X : Cx} {W : WX} {M : List Addr} {σ : L2.St} {H H' : Hp} {e o a b c : Expr} {es : List Expr} {pos p apos : Pos} {α β γ δ ε : Type} [Enc α] [Enc β] [Enc γ] [Enc δ] [Enc ε] {x m : Str} {k : Nat} {sp : Sp} {Q : VK}
theorem we_call (tk : Takes X W) (F : FN X.prog X.w X.K X.mg X.base x k sp) (hr : Room k X.A) (h : WA X (e :: es) σ H fun vs H1 => sp vs H1 Q fun cls d H2 => W cls d σ H2) (hg : Gl X x := by rfl) (hdb : (x == ("__debug__" : Str)) = false := by decide)
    (he : starEach (e :: es) X.env = (false, eval e X.env) :: starEach es X.env := by rfl) (hpl : (backTo pos (starEach es X.env)).any (·.1) = false := by rfl) : WE X (.Call (.Name x p) (e :: es) [] pos) σ H Q := by
  obtain ⟨f, fd, ps, G, hm, hk, hb⟩ := F
  exact we_of (pe_callS (E := fun σ cls d H => W cls d σ H) G hr hg hm hk hb (fun σ => passAt tk σ) paw hdb he hpl) h
theorem we_call0 (tk : Takes X W) (F : FN X.prog X.w X.K X.mg X.base x k sp) (hr : Room k X.A) (h : sp [] H Q fun cls d H2 => W cls d σ H2) (hg : Gl X x := by rfl) (hdb : (x == ("__debug__" : Str)) = false := by decide) : WE X (.Call (.Name x p) [] [] pos) σ H Q := by
  obtain ⟨f, fd, ps, G, hm, hk, hb⟩ := F
  intro pins s I
  refine wpAny_Call_Name_kw (ld_glob I hg hm ?_ hdb)
  exact PySem.W.callWith_K0 I.kIn hk (run_fnS (us := []) (E := fun σ cls d H => W cls d σ H) G hr hb (passAt tk σ) I .nil h)
/-- o.m(e, ..) -/
theorem we_meth {pl : Sem Bool} {C : Addr} (tk : Takes X W) (cl : Cls X.K C) (F : ME X.prog X.w X.K X.mg X.base C m k sp) (hr : Room k X.A)
    (h : WE X o σ H fun v H1 => ∃ q dx fs, v = .ref q ∧ H1 q = some (.ins C dx fs) ∧ fs.lookup m = none ∧ WA X (e :: es) σ H1 fun vs H2 => sp (.ref q :: vs) H2 Q fun cls d H3 => W cls d σ H3)
    (hst : starEach (e :: es) X.env = (false, eval e X.env) :: starEach es X.env := by rfl) (hpl : (backTo pos (starEach es X.env)).any (·.1) = false := by rfl)
    (ht : eval (.Call (.Attribute o m apos) (e :: es) [] pos) X.env = (do
      let ov ← eval o X.env
      standAt apos.atName
      let (f, first) ← holding [ov] (getMethod ov m pl)
      callWith pos f first (backTo pos (starEach (e :: es) X.env)) (backToKw pos (keywordEach [] X.env))) := by rfl) : WE X (.Call (.Attribute o m apos) (e :: es) [] pos) σ H Q := by
  obtain ⟨f, fd, ps, G, hm, hb⟩ := F
  intro pins s I
  refine PySem.W.methodCall_KW (pl := pl) (thn (h pins s I) fun u s1 ⟨v, H1, I1, rx, q, dx, fs, ex, ea, l, w⟩ => ?_) ht
  subst ex
  obtain rfl : u = Value.ref q := rx
  refine getmeth_ok I1 ea cl hm l ?_
  refine PySem.W.callWith_K (first := [.ref q]) (h₀ := X.base) I.ok.mod.kin hm.kp (thn (w pos pins s1 I1) fun us s2 ⟨vs, H2, I2, r, q2⟩ => ⟨I2.kIn, ?_⟩) hst hpl
  exact run_fnS (us := .ref q :: us) (vs := .ref q :: vs) (E := fun σ cls d H => W cls d σ H) G hr hb (passAt tk σ) I2 (.cons rfl r) q2
/-- o.m() -/
theorem we_meth0 {pl : Sem Bool} {C : Addr} (tk : Takes X W) (cl : Cls X.K C) (F : ME X.prog X.w X.K X.mg X.base C m k sp) (hr : Room k X.A)
    (h : WE X o σ H fun v H1 => ∃ q dx fs, v = .ref q ∧ H1 q = some (.ins C dx fs) ∧ fs.lookup m = none ∧ sp [.ref q] H1 Q fun cls d H3 => W cls d σ H3)
    (ht : eval (.Call (.Attribute o m apos) [] [] pos) X.env = (do
      let ov ← eval o X.env
      standAt apos.atName
      let (f, first) ← holding [ov] (getMethod ov m pl)
      callWith pos f first (backTo pos (starEach [] X.env)) (backToKw pos (keywordEach [] X.env))) := by rfl) : WE X (.Call (.Attribute o m apos) [] [] pos) σ H Q := by
  obtain ⟨f, fd, ps, G, hm, hb⟩ := F
  intro pins s I
  refine PySem.W.methodCall_KW (pl := pl) (thn (h pins s I) fun u s1 ⟨v, H1, I1, rx, q, dx, fs, ex, ea, l, w⟩ => ?_) ht
  subst ex
  obtain rfl : u = Value.ref q := rx
  refine getmeth_ok I1 ea cl hm l ?_
  exact PySem.W.callWith_K0 (first := [.ref q]) I1.kIn hm.kp (run_fnS (us := [.ref q]) (vs := [.ref q]) (E := fun σ cls d H => W cls d σ H) G hr hb (passAt tk σ) I1 (.cons rfl .nil) w)
/-! promises of defs that only tell -/
def spP1 (K : PySem.W.Frag) (pre : α → Prop) (f : α → β) : Sp := fun vs H Q _ => ∃ (M : List Addr) (v : V) (a : α), vs = [v] ∧ Dom M H ∧ den K (hide M H) v a ∧ pre a ∧ ∀ u H', Ex H H' → den K (hide M H') u (f a) → Q u H'
def spP2 (K : PySem.W.Frag) (pre : α → β → Prop) (f : α → β → γ) : Sp := fun vs H Q _ => ∃ (M : List Addr) (v v' : V) (a : α) (b : β), vs = [v, v'] ∧ Dom M H ∧ den K (hide M H) v a ∧ den K (hide M H) v' b ∧ pre a b ∧ ∀ u H', Ex H H' → den K (hide M H') u (f a b) → Q u H'
def spP3 (K : PySem.W.Frag) (pre : α → β → γ → Prop) (f : α → β → γ → δ) : Sp := fun vs H Q _ => ∃ (M : List Addr) (v v' v'' : V) (a : α) (b : β) (c : γ), vs = [v, v', v''] ∧ Dom M H ∧ den K (hide M H) v a ∧ den K (hide M H) v' b ∧ den K (hide M H) v'' c ∧ pre a b c ∧ ∀ u H', Ex H H' → den K (hide M H') u (f a b c) → Q u H'
theorem ve_call1 {y : α} {pre : α → Prop} {f : α → β} (F : FN X.prog X.w X.K X.mg X.base x k (spP1 X.K pre f)) (hr : Room k X.A) (h : VE X M σ H e y) (hp : pre y) (hg : Gl X x := by rfl) (hdb : (x == ("__debug__" : Str)) = false := by decide)
    (he : starEach [e] X.env = (false, eval e X.env) :: starEach [] X.env := by rfl) (hpl : (backTo pos (starEach [] X.env)).any (·.1) = false := by rfl) : VE X M σ H (.Call (.Name x p) [e] [] pos) (f y) := fun H1 e1 d Q q =>
  we_call takes0 F hr (wa_of (pa_cons pw pa_nil he) (h H1 e1 d _ fun v H2 e2 dv => ⟨M, v, y, rfl, d.ex e2, dv, hp, fun u H3 e3 du => q u H3 (Ex.tr e2 e3) du⟩)) hg hdb he hpl
theorem ve_call2 {y : α} {z : β} {pre : α → β → Prop} {f : α → β → γ} (F : FN X.prog X.w X.K X.mg X.base x k (spP2 X.K pre f)) (hr : Room k X.A) (ha : VE X M σ H a y) (hb : VE X M σ H b z) (hp : pre y z) (hg : Gl X x := by rfl) (hdb : (x == ("__debug__" : Str)) = false := by decide)
    (he : starEach [a, b] X.env = (false, eval a X.env) :: starEach [b] X.env := by rfl) (he2 : starEach [b] X.env = (false, eval b X.env) :: starEach [] X.env := by rfl) (hpl : (backTo pos (starEach [b] X.env)).any (·.1) = false := by rfl) : VE X M σ H (.Call (.Name x p) [a, b] [] pos) (f y z) := fun H1 e1 d Q q =>
  we_call takes0 F hr (wa_of (pa_cons pw (pa_cons pw pa_nil he2) he) (two ha hb e1 d fun v v' H2 e2 d2 dv dv' => ⟨M, v, v', y, z, rfl, d2, dv, dv', hp, fun u H3 e3 du => q u H3 (Ex.tr e2 e3) du⟩)) hg hdb he hpl
end
/-! ### lists and texts, read -/
section
variable {X : Cx} {M : List Addr} {σ : L2.St} {H H' : Hp} {e o a b c : Expr} {es : List Expr} {pos p apos : Pos} {α β γ : Type} [Enc α] [Enc β] [Enc γ]
theorem ex_hideL {K : PySem.W.Frag} {l : Addr} {vs : List V} (h : SqL K (hide M H) l vs) : SqL K H l vs := ex_l hide_le h
theorem ex_hideT {K : PySem.W.Frag} {l : Addr} {vs : List V} (h : SqT K (hide M H) l vs) : SqT K H l vs := ex_t hide_le h
/-- xs[i] -/
theorem ve_ixL {xs : List α} {i : Int} {j : Nat} {y : α} (ha : VE X M σ H a xs) (hb : VE X M σ H b i) (hi : i = (j : Int)) (hy : xs[j]? = some y) (hs : PlainIx b := by exact fun _ _ => rfl) : VE X M σ H (.Subscript a b pos) y :=
  ve_rule (pe_ix ix_list pw pw hs) fun H1 e1 d Q q => two ha hb e1 d fun v u H2 e2 d2 dv du => by
    obtain ⟨l, vs, rfl, hl, hd⟩ := dv
    obtain ⟨z, hz, dz⟩ := hd.get hy
    exact ⟨l, vs, i, z, rfl, du, ex_hideL hl, by rw [hi]; exact atI_nat hz, q z H2 e2 dz⟩
/-- an item of a list that may change -/
theorem ve_ixM {xs : List V} {l : Addr} {i : Int} {v : V} {y : α} (ha : VE X M σ H a (V.ref l)) (hb : VE X M σ H b i) (hl : H l = some (.lst xs)) (hy : atI xs i = some v) (hd : den X.K (hide M H) v y) (hs : PlainIx b := by exact fun _ _ => rfl) : VE X M σ H (.Subscript a b pos) y :=
  ve_rule (pe_ix ix_list pw pw hs) fun H1 e1 d Q q => two ha hb e1 d fun w u H2 e2 d2 dw du => ⟨l, xs, i, v, dw, du, .inl (.inl (Ex.tr e1 e2 l _ hl)), hy, q v H2 e2 (Enc.mono (Ex.hide (Ex.tr e1 e2)) hd)⟩
theorem ve_fst {z : α × β} {j : Nat} {p' : Pos} (ha : VE X M σ H a z) (hs : PlainIx (.Constant (.int 0) j p') := by exact fun _ _ => rfl) : VE X M σ H (.Subscript a (.Constant (.int 0) j p') pos) z.1 :=
  ve_rule (pe_ix ix_tup pw pe_int hs) fun H1 e1 d Q q => ha H1 e1 d _ fun v H2 e2 dv => by
    obtain ⟨l, x, y, rfl, hl, h1, h2⟩ := dv
    exact ⟨l, [x, y], 0, x, rfl, rfl, ex_hideT hl, rfl, q x H2 e2 h1⟩
theorem ve_snd {z : α × β} {j : Nat} {p' : Pos} (ha : VE X M σ H a z) (hs : PlainIx (.Constant (.int 1) j p') := by exact fun _ _ => rfl) : VE X M σ H (.Subscript a (.Constant (.int 1) j p') pos) z.2 :=
  ve_rule (pe_ix ix_tup pw pe_int hs) fun H1 e1 d Q q => ha H1 e1 d _ fun v H2 e2 dv => by
    obtain ⟨l, x, y, rfl, hl, h1, h2⟩ := dv
    exact ⟨l, [x, y], 1, y, rfl, rfl, ex_hideT hl, rfl, q y H2 e2 h2⟩
/-- s[i] of a text -/
theorem ve_ixS {s : Str} {i : Int} {j : Nat} {ch : Nat} (ha : VE X M σ H a s) (hb : VE X M σ H b i) (hi : i = (j : Int)) (hl : s.length ≤ 100000) (hy : s.cps.toList[j]? = some ch) (hs : PlainIx b := by exact fun _ _ => rfl) : VE X M σ H (.Subscript a b pos) (⟨#[ch]⟩ : Str) :=
  ve_rule (pe_ix ix_str pw pw hs) fun H1 e1 d Q q => two ha hb e1 d fun v u H2 e2 d2 dv du => ⟨s, i, ch, dv, du, sz hl, by rw [hi]; exact atI_nat hy, q _ H2 e2 rfl⟩
theorem ve_lenL {xs : List α} (hm : X.mg "len" = none) (h : VE X M σ H e xs) (hg : Gl X "len" := by rfl) (he : starEach [e] X.env = (false, eval e X.env) :: starEach [] X.env := by rfl) (hpl : (backTo pos (starEach [] X.env)).any (·.1) = false := by rfl) : VE X M σ H (.Call (.Name "len" p) [e] [] pos) (xs.length : Int) :=
  ve_rule (pe_callB call_len hg hm PySem.boot_len (pa_cons pw pa_nil he) (by decide) (by decide) he hpl) fun H1 e1 d Q q => h H1 e1 d _ fun v H2 e2 dv => by
    obtain ⟨l, vs, rfl, hl, hd⟩ := dv
    exact ⟨.ref l, vs.length, rfl, .inl ⟨vs, ex_hideL hl, rfl⟩, q _ H2 e2 (by rw [hd.len]; rfl)⟩
theorem ve_lenS {s : Str} (hm : X.mg "len" = none) (h : VE X M σ H e s) (hl : s.length ≤ 100000) (hg : Gl X "len" := by rfl) (he : starEach [e] X.env = (false, eval e X.env) :: starEach [] X.env := by rfl) (hpl : (backTo pos (starEach [] X.env)).any (·.1) = false := by rfl) : VE X M σ H (.Call (.Name "len" p) [e] [] pos) (s.length : Int) :=
  ve_rule (pe_callB call_len hg hm PySem.boot_len (pa_cons pw pa_nil he) (by decide) (by decide) he hpl) fun H1 e1 d Q q => h H1 e1 d _ fun v H2 e2 dv => by
    rw [show v = .str s from dv]
    exact ⟨.str s, s.length, rfl, ⟨sz hl, rfl⟩, q _ H2 e2 rfl⟩
/-- len of a list that may change -/
theorem ve_lenM {xs : List V} {l : Addr} (hm : X.mg "len" = none) (h : VE X M σ H e (V.ref l)) (hl : H l = some (.lst xs)) (hg : Gl X "len" := by rfl) (he : starEach [e] X.env = (false, eval e X.env) :: starEach [] X.env := by rfl) (hpl : (backTo pos (starEach [] X.env)).any (·.1) = false := by rfl) : VE X M σ H (.Call (.Name "len" p) [e] [] pos) (xs.length : Int) :=
  ve_rule (pe_callB call_len hg hm PySem.boot_len (pa_cons pw pa_nil he) (by decide) (by decide) he hpl) fun H1 e1 d Q q => h H1 e1 d _ fun v H2 e2 dv => ⟨v, xs.length, rfl, by rw [show v = .ref l from dv]; exact .inl ⟨xs, .inl (.inl (Ex.tr e1 e2 l _ hl)), rfl⟩, q _ H2 e2 rfl⟩
/-- list(xs) -/
theorem ve_list {xs : List α} (hm : X.mg "list" = none) (h : VE X M σ H e xs) (hg : Gl X "list" := by rfl) (he : starEach [e] X.env = (false, eval e X.env) :: starEach [] X.env := by rfl) (hpl : (backTo pos (starEach [] X.env)).any (·.1) = false := by rfl) : VE X M σ H (.Call (.Name "list" p) [e] [] pos) xs :=
  ve_rule (pe_callTy call_list_of hg hm (by decide +kernel) (pa_cons pw pa_nil he) (by decide) (by decide) he hpl) fun H1 e1 d Q q => h H1 e1 d _ fun v H2 e2 dv => by
    obtain ⟨l, vs, rfl, hl, hd⟩ := dv
    exact ⟨l, vs, rfl, .inl (ex_hideL hl), fun r hr => q _ _ (Ex.tr e2 (Ex.new hr)) ⟨r, vs, rfl, sq_new (d.ex e2) hr, hd.imp fun _ _ => Enc.mono (Ex.hide (Ex.new hr))⟩⟩
/-- list(xs) of a list that may change -/
theorem ve_listM {vs : List V} {xs : List α} {l : Addr} (hm : X.mg "list" = none) (h : VE X M σ H e (V.ref l)) (hl : H l = some (.lst vs)) (hd : All2 (den X.K (hide M H)) vs xs) (hg : Gl X "list" := by rfl) (he : starEach [e] X.env = (false, eval e X.env) :: starEach [] X.env := by rfl) (hpl : (backTo pos (starEach [] X.env)).any (·.1) = false := by rfl) : VE X M σ H (.Call (.Name "list" p) [e] [] pos) xs :=
  ve_rule (pe_callTy call_list_of hg hm (by decide +kernel) (pa_cons pw pa_nil he) (by decide) (by decide) he hpl) fun H1 e1 d Q q => h H1 e1 d _ fun v H2 e2 dv =>
    ⟨l, vs, by rw [show v = .ref l from dv], .inl (.inl (.inl (Ex.tr e1 e2 l _ hl))), fun r hr => q _ _ (Ex.tr e2 (Ex.new hr)) ⟨r, vs, rfl, sq_new (d.ex e2) hr, hd.imp fun _ _ => Enc.mono (Ex.hide (Ex.tr (Ex.tr e1 e2) (Ex.new hr)))⟩⟩
end
end Tm
set_option maxHeartbeats 2000000
namespace Tm
open PySem PySem.Spec PyProof.Rows L2
open Enc (den)
section
variable {X : Cx} {M : List Addr} {σ : L2.St} {H H' : Hp} {e o a b c : Expr} {es : List Expr} {pos p apos : Pos} {α β γ : Type} [Enc α] [Enc β] [Enc γ]
/-! ### locks that stay -/
theorem we_frz {Q : VK} (h : WE X e σ H fun v H1 => ∃ d u, H1 d = some u ∧ Mut (some u) ∧ ∀ od, Q v (upd H1 d (.frz od u))) : WE X e σ H Q := fun pins s I => thn (h pins s I) fun u s1 ⟨v, H1, I1, r, d, w, hd, mu, q⟩ => by
  obtain ⟨od, I2⟩ := I1.lock hd mu
  exact ⟨v, _, I2, r, q od⟩
theorem wb_frz {sts : List Stmt} {D : Ends} {d : Addr} {u : HO} (hd : H d = some u) (mu : Mut (some u)) (h : ∀ od, WB X sts D σ (upd H d (.frz od u))) : WB X sts D σ H := fun pins s I => by
  obtain ⟨od, I2⟩ := I.lock hd mu
  exact h od pins s I2
/-! ### what is walked -/
/-- iter, walked for tg, gives the data xs one by one, as long as all but M stays -/
def WI (X : Cx) (tg iter : Expr) : TI := fun σ H R => ∀ pins s, Inv X pins σ H s → wpAny (model X.prog X.w) X.A (eval iter X.env) (fun v s1 => wpAny (model X.prog X.w) X.A (pyIter v) (PIE X pins σ tg R) X.xe s1) X.xe s
theorem piw {tg iter : Expr} : PI X tg iter (WI X tg iter) := ⟨fun _ _ _ _ _ I h => h _ _ I⟩
theorem wi_of {tg iter : Expr} {t : TI} {R : It → Hp → Prop} (p : PI X tg iter t) (h : t σ H R) : WI X tg iter σ H R := fun pins s I => p.run pins s σ H R I h
def VI (X : Cx) (M : List Addr) (σ : L2.St) (H : Hp) (tg iter : Expr) (xs : List α) : Prop := ∀ H1, Ex H H1 → Dom M H1 → ∀ R : It → Hp → Prop,
  (∀ J H2 G Y, Ex H1 H2 → Walk J xs.length G Y → (∀ H3, Bt M H2 H3 → G H3) → (∀ i Ha v Hb, i < xs.length → Bt M H2 Ha → Y i Ha v Hb → Ex Ha Hb ∧ ∃ x, xs[i]? = some x ∧ ∀ M', Ex (hide M H2) (hide M' Ha) → Dom M' Ha → den X.K (hide M' Hb) v x) → R J H2) → WI X tg iter σ H1 R
theorem bt_l {K : PySem.W.Frag} {H H3 : Hp} {l : Addr} {vs : List V} (h : SqL K (hide M H) l vs) (b : Bt M H H3) : SqL K H3 l vs := ex_hideL (M := M) (ex_l (b.hide fun _ z => z) h)
theorem vi_list {xs : List α} {tg : Expr} (h : VE X M σ H e xs) : VI X M σ H tg e xs := fun H1 e1 d R q => wi_of (pi_list pw) (h H1 e1 d _ fun v H2 e2 dv => by
  obtain ⟨l, vs, rfl, hl, hd⟩ := dv
  refine ⟨l, rfl, ⟨vs, ex_hideL hl⟩, q (Itl X.K l) H2 (fun H => SqL X.K H l vs) (YAt vs) e2 (by rw [← hd.len]; exact walk_list) (fun H3 b => bt_l hl b) fun i Ha v Hb _ b y => ?_⟩
  obtain ⟨rfl, hv⟩ := y
  obtain ⟨x, hx, dx⟩ := hd.get' hv
  exact ⟨Ex.rfl', x, hx, fun M' em _ => Enc.mono em dx⟩)
theorem vi_range {n : Int} {tg : Expr} (hm : X.mg "range" = none) (h : VE X M σ H e n) (h0 : 0 ≤ n) (h1 : n < 2 ^ 62) (hg : Gl X "range" := by rfl) (hs : starEach [e] X.env = [(false, eval e X.env)] := by rfl) : VI X M σ H tg (.Call (.Name "range" p) [e] [] pos) (List.range n.toNat) :=
  fun H1 e1 d R q => wi_of (pi_range1 hg hm (pa_cons pw pa_nil hs) hs) (h H1 e1 d _ fun v H2 e2 dv => by
    rw [show v = .int n from dv]
    refine ⟨n, rfl, by omega, h1, q (Itr 0 n.toNat) H2 (fun _ => True) (YFn fun i => .int (0 + i)) e2 (by rw [List.length_range]; exact walk_range) (fun _ _ => trivial) fun i Ha v Hb hi b y => ?_⟩
    obtain ⟨rfl, rfl⟩ := y
    rw [List.length_range] at hi
    exact ⟨Ex.rfl', i, by rw [List.getElem?_range hi], fun _ _ _ => by show V.int (0 + (i : Int)) = V.int (i : Int); rw [Int.zero_add]⟩)
/-- the signs of a text -/
def signs (z : Str) : List Str := z.cps.toList.map fun c => ⟨#[c]⟩
theorem vi_str {z : Str} {tg : Expr} (h : VE X M σ H e z) : VI X M σ H tg e (signs z) := fun H1 e1 d R q => wi_of (pi_str pw) (h H1 e1 d _ fun v H2 e2 dv => by
  refine ⟨z, dv, q (Its z) H2 (fun _ => True) _ e2 (by unfold signs; rw [List.length_map, Array.length_toList]; exact walk_str) (fun _ _ => trivial) fun i Ha v Hb _ b y => ?_⟩
  obtain ⟨rfl, c, hc, rfl⟩ := y
  exact ⟨Ex.rfl', ⟨#[c]⟩, by unfold signs; rw [List.getElem?_map, Array.getElem?_toList, hc]; rfl, fun _ _ _ => rfl⟩)
/-- the keys of a dict -/
theorem vi_keys {t : Dct β} {tg : Expr} (h : VE X M σ H e t) : VI X M σ H tg e (t.kv.map (·.1)) := fun H1 e1 d R q => wi_of (pi_keys pw) (h H1 e1 d _ fun v H2 e2 dv => by
  obtain ⟨l, od, kvs, rfl, hl, hd⟩ := dv
  obtain ⟨lM, hl'⟩ := hide_some hl
  refine ⟨l, od, rfl, .inl ⟨kvs, hl', q (Itk l od kvs) H2 _ _ e2 (by rw [List.length_map, ← hd.len]; exact walk_keys) (fun H3 b => b l _ lM hl') fun i Ha v Hb _ b y => ?_⟩⟩
  obtain ⟨rfl, k, w, hk, rfl⟩ := y
  obtain ⟨x, hx, dx, _⟩ := hd.get' hk
  refine ⟨Ex.rfl', x.1, by rw [List.getElem?_map, hx]; rfl, fun _ _ _ => ?_⟩
  rw [show k = Sum.inr x.1 from dx]
  rfl)
/-! ### for -/
theorem wb_for {xs : List α} {tg iter : Expr} {g : TG} {body rest : List Stmt} {D : Ends} (po : PassesOwn (model X.prog X.w) X.A X.env X.xe) (hc : X.calm = true) (d : Dom M H) (src : VI X M σ H tg iter xs) (hg : PG X tg g)
    (Pv : Hp → Nat → L2.St → Hp → Prop) (h0 : ∀ H1, Ex H H1 → Pv H1 0 σ H1) (hb : ∀ H1 i σ' H', Ex H H1 → Pv H1 i σ' H' → Bt M H1 H' ∧ Dom M H')
    (hs : ∀ H1 i x v σ' Ha H', Ex H H1 → xs[i]? = some x → Pv H1 i σ' Ha → Ex Ha H' → den X.K (hide M H') v x → g v σ' H' fun σ2 H2 => WB X body { D with nx := Pv H1 (i + 1), ct := Pv H1 (i + 1), bk := fun σ3 H3 => WB X rest D σ3 H3 } σ2 H2)
    (hd : ∀ H1 σ' H', Ex H H1 → Pv H1 xs.length σ' H' → WB X rest D σ' H') (hf : ∀ x, foldedSetIterable iter X.env x = pure x := by intro _; rfl) : WB X (.For tg iter body [] pos :: rest) D σ H := by
  refine wb_cons (ws_of (ps_for po hc piw hg pbw hf) (src H Ex.rfl' d _ fun J H1 G Y e1 W hG hY => ?_))
  exact for_it W (D := { D with nx := fun σ' H' => WB X rest D σ' H' }) (Pv H1) (h0 H1 e1) (fun i σ' H' _ p => hG H' (hb H1 i σ' H' e1 p).1) (fun i v σ' Ha H' hi p y => by
    obtain ⟨bt, dm⟩ := hb H1 i σ' Ha e1 p
    obtain ⟨ex, x, hx, dx⟩ := hY i Ha v H' hi bt y
    exact hs H1 i x v σ' Ha H' e1 hx p ex (dx M (bt.hide fun _ z => z) dm)) (fun σ' H' p => hd H1 σ' H' e1 p)
/-! ### comprehensions -/
/-- the block of a comprehension -/
abbrev Blk (X : Cx) (scope : Scope) (s : Shared) (H : Hp) (C : Addr) (cl : List (Str × Addr)) (fp : List Addr) : Cx := X.blk s H scope (compEnvC scope cl C X.env) fp
def tAllE (X : Cx) (scope : Scope) (e : Expr) : TE := fun σ H Q => ∀ s H0 C cl fp, WE (Blk X scope s H0 C cl fp) e σ H Q
def tAllT (X : Cx) (scope : Scope) (e : Expr) : TT := fun σ H Q => ∀ s H0 C cl fp, WT (Blk X scope s H0 C cl fp) e σ H Q
theorem pallE {scope : Scope} {s : Shared} {H : Hp} {C : Addr} {cl : List (Str × Addr)} {fp : List Addr} : PE (Blk X scope s H C cl fp) e (tAllE X scope e) := ⟨fun _ _ _ _ _ I h => h _ _ _ _ _ _ _ I⟩
theorem pallT {scope : Scope} {s : Shared} {H : Hp} {C : Addr} {cl : List (Str × Addr)} {fp : List Addr} : PT (Blk X scope s H C cl fp) e (tAllT X scope e) := ⟨fun _ _ _ _ _ I h => h _ _ _ _ _ _ _ I⟩
theorem den_app {K : PySem.W.Frag} {H : Hp} {vs : List V} {xs : List α} {v : V} {x : α} (h : All2 (den K H) vs xs) (hx : den K H v x) : All2 (den K H) (vs ++ [v]) (xs ++ [x]) := h.app (.cons hx .nil)
theorem fm_take {xs : List α} {f : α → Bool} {g : α → β} {i : Nat} {x : α} (h : xs[i]? = some x) : ((xs.take (i + 1)).filter f).map g = ((xs.take i).filter f).map g ++ (if f x = true then [g x] else []) := by
  rw [List.take_add_one, h, List.filter_append, List.map_append]
  congr 1
  show (List.filter f [x]).map g = _
  by_cases hf : f x = true
  · rw [if_pos hf, List.filter_cons, if_pos hf]
    rfl
  · rw [if_neg hf, List.filter_cons, if_neg hf]
    rfl
/-- [elt for x in iter if t] -/
theorem ve_lcIf {xs : List α} {f : α → Bool} {g : α → β} {elt iter ts : Expr} {scope : Scope} {n : Str} {j : Nat} {np : Pos} (hc : X.calm = true) (nd : X.N.Nodup) (src : VI X M σ H (.Name n np) iter xs) (hz : xs.length < 90000) (ok : BlkOk X.N X.env.scope scope [(n, j)])
    (bd : ∀ q s H0 C cl fp H1 v x, H q = none → Ex H H1 → Dom (q :: M) H1 → Ex (hide M H) (hide (q :: M) H1) → x ∈ xs → den X.K (hide (q :: M) H1) v x →
      VT (Blk X scope s H0 C cl fp) (q :: M) ((wipe σ [j]).set j (some v)) H1 ts (f x) ∧ (f x = true → VE (Blk X scope s H0 C cl fp) (q :: M) ((wipe σ [j]).set j (some v)) H1 elt (g x)))
    (hw : ∀ v, wipe ((wipe σ [j]).set j (some v)) [j] = wipe σ [j] := by intro _; rfl) (hi : X.N[j]? = some n := by rfl) (hl : (relabel scope X.env).names.lookup n = some .local := by rfl) (hs : ∀ x, foldedSetIterable iter X.env x = pure x := by intro _; rfl) :
    VE X M σ H (.ListComp elt [⟨.Name n np, iter, [ts], 0⟩] scope pos) ((xs.filter f).map g) := by
  refine ve_rule (pe_lc (own := [(n, j)]) (g := gName j) hc nd piw ok (fun s H C cl fp => pg_name nd hi (Or.inl hl) (Or.inr hl)) (fun _ _ _ _ _ => pts_one pallT) (fun _ _ _ _ _ => pallE) hs) fun H1 e1 d Q q => src H1 e1 d _ fun J H2 G Y e2 W hG hY D hD => ?_
  have hHD : H D = none := Ex.back (Ex.tr e1 e2) hD
  have d2 := d.ex e2
  -- behind i items the list at D holds what the first i give; all else has grown alone
  refine lc_it W (fun i Hc => ∃ vs, Hc D = some (.lst vs) ∧ Ex H2 Hc ∧ All2 (den X.K (hide (D :: M) Hc)) vs (((xs.take i).filter f).map g) ∧ Dom (D :: M) Hc ∧ vs.length ≤ i) ?_ ?_ ?_ ?_
  · exact ⟨[], upd_same, Ex.new hD, by rw [List.take_zero]; exact .nil, (d2.upd).cons upd_same, Nat.le_refl _⟩
  · rintro i Hc _ ⟨vs, h1, h2, _⟩
    exact hG Hc (Bt.ex h2)
  · rintro i v Ha Hb hi' ⟨vs, h1, e2a, h3, h4, h5⟩ y
    obtain ⟨eab, x, hx, dx⟩ := hY i Ha v Hb hi' (Bt.ex e2a) y
    have e2b : Ex H2 Hb := Ex.tr e2a eab
    have dx' : den X.K (hide (D :: M) Hb) v x := dx (D :: M) (hide_under hD e2a) h4
    have eHb : Ex H Hb := Ex.tr (Ex.tr e1 e2) e2b
    have hxm : x ∈ xs := List.mem_of_getElem? hx
    have d4 := h4.ex eab
    refine ⟨hw v, fun s H0 C cl fp => (bd D s H0 C cl fp Hb v x hHD eHb d4 (hide_under hHD eHb) hxm dx').1 Hb Ex.rfl' d4 _ fun H3 e3 => ?_⟩
    by_cases hf : f x = true
    · rw [hf]
      refine iteT fun s H0 C cl fp => (bd D s H0 C cl fp Hb v x hHD eHb d4 (hide_under hHD eHb) hxm dx').2 hf H3 e3 (d4.ex e3) _ fun u H4 e4 du => ?_
      have ea4 : Ex Ha H4 := Ex.tr eab (Ex.tr e3 e4)
      refine ⟨vs, ea4 D _ h1, szl (by omega), vs ++ [u], upd_same, fun a o ha => ?_, ?_, (h4.ex ea4).upd, ?_⟩
      · rw [upd_ne (ne_of_none ha hD)]
        exact ea4 a o (e2a a o ha)
      · rw [fm_take hx, if_pos hf, hide_upd List.mem_cons_self]
        exact den_app (h3.imp fun _ _ z => Enc.mono (Ex.hide ea4) z) du
      · rw [List.length_append]
        show vs.length + 1 ≤ i + 1
        omega
    · have hf' : f x = false := by simpa using hf
      rw [hf']
      have ea3 : Ex Ha H3 := Ex.tr eab e3
      refine iteF ⟨vs, ea3 D _ h1, Ex.tr e2a ea3, ?_, h4.ex ea3, by omega⟩
      rw [fm_take hx, if_neg hf, List.append_nil]
      exact h3.imp fun _ _ z => Enc.mono (Ex.hide ea3) z
  · rintro Hc ⟨vs, h1, e2c, h3, h4, h5⟩
    rw [List.take_length] at h3
    refine q _ Hc (Ex.tr e2 e2c) ⟨D, vs, rfl, .inl (.inl ?_), h3.imp fun _ _ z => Enc.mono hide_more z⟩
    rw [hide_out (d2.fresh hD)]
    exact h1
/-- [elt for x in iter] -/
theorem ve_lc {xs : List α} {g : α → β} {elt iter : Expr} {scope : Scope} {n : Str} {j : Nat} {np : Pos} (hc : X.calm = true) (nd : X.N.Nodup) (src : VI X M σ H (.Name n np) iter xs) (hz : xs.length < 90000) (ok : BlkOk X.N X.env.scope scope [(n, j)])
    (bd : ∀ q s H0 C cl fp H1 v x, H q = none → Ex H H1 → Dom (q :: M) H1 → Ex (hide M H) (hide (q :: M) H1) → x ∈ xs → den X.K (hide (q :: M) H1) v x →
      VE (Blk X scope s H0 C cl fp) (q :: M) ((wipe σ [j]).set j (some v)) H1 elt (g x))
    (hw : ∀ v, wipe ((wipe σ [j]).set j (some v)) [j] = wipe σ [j] := by intro _; rfl) (hi : X.N[j]? = some n := by rfl) (hl : (relabel scope X.env).names.lookup n = some .local := by rfl) (hs : ∀ x, foldedSetIterable iter X.env x = pure x := by intro _; rfl) :
    VE X M σ H (.ListComp elt [⟨.Name n np, iter, [], 0⟩] scope pos) (xs.map g) := by
  refine ve_rule (pe_lc (own := [(n, j)]) (g := gName j) hc nd piw ok (fun s H C cl fp => pg_name nd hi (Or.inl hl) (Or.inr hl)) (fun _ _ _ _ _ => pts_nil) (fun _ _ _ _ _ => pallE) hs) fun H1 e1 d Q q => src H1 e1 d _ fun J H2 G Y e2 W hG hY D hD => ?_
  have hHD : H D = none := Ex.back (Ex.tr e1 e2) hD
  have d2 := d.ex e2
  refine lc_it W (fun i Hc => ∃ vs, Hc D = some (.lst vs) ∧ Ex H2 Hc ∧ All2 (den X.K (hide (D :: M) Hc)) vs ((xs.take i).map g) ∧ Dom (D :: M) Hc ∧ vs.length ≤ i) ?_ ?_ ?_ ?_
  · exact ⟨[], upd_same, Ex.new hD, by rw [List.take_zero]; exact .nil, (d2.upd).cons upd_same, Nat.le_refl _⟩
  · rintro i Hc _ ⟨vs, h1, h2, _⟩
    exact hG Hc (Bt.ex h2)
  · rintro i v Ha Hb hi' ⟨vs, h1, e2a, h3, h4, h5⟩ y
    obtain ⟨eab, x, hx, dx⟩ := hY i Ha v Hb hi' (Bt.ex e2a) y
    have e2b : Ex H2 Hb := Ex.tr e2a eab
    have dx' : den X.K (hide (D :: M) Hb) v x := dx (D :: M) (hide_under hD e2a) h4
    have eHb : Ex H Hb := Ex.tr (Ex.tr e1 e2) e2b
    have d4 := h4.ex eab
    refine ⟨hw v, ?_⟩
    unfold tYes
    dsimp only
    rw [if_pos rfl]
    refine fun s H0 C cl fp => bd D s H0 C cl fp Hb v x hHD eHb d4 (hide_under hHD eHb) (List.mem_of_getElem? hx) dx' Hb Ex.rfl' d4 _ fun u H4 e4 du => ?_
    have ea4 : Ex Ha H4 := Ex.tr eab e4
    refine ⟨vs, ea4 D _ h1, szl (by omega), vs ++ [u], upd_same, fun a o ha => ?_, ?_, (h4.ex ea4).upd, ?_⟩
    · rw [upd_ne (ne_of_none ha hD)]
      exact ea4 a o (e2a a o ha)
    · rw [List.take_add_one, hx, List.map_append, hide_upd List.mem_cons_self]
      exact den_app (h3.imp fun _ _ z => Enc.mono (Ex.hide ea4) z) du
    · rw [List.length_append]
      show vs.length + 1 ≤ i + 1
      omega
  · rintro Hc ⟨vs, h1, e2c, h3, h4, h5⟩
    rw [List.take_length] at h3
    refine q _ Hc (Ex.tr e2 e2c) ⟨D, vs, rfl, .inl (.inl ?_), h3.imp fun _ _ z => Enc.mono hide_more z⟩
    rw [hide_out (d2.fresh hD)]
    exact h1
/-! ### all, any, in, sums of texts -/
theorem all_bools {K : PySem.W.Frag} {H : Hp} {vs : List V} {bs : List Bool} (h : All2 (den K H) vs bs) : vs = bs.map V.bl := h.eqMap
theorem ve_all {bs : List Bool} (hm : X.mg "all" = none) (hc : X.calm = true) (h : VE X M σ H e bs) (hg : Gl X "all" := by rfl) (he : starEach [e] X.env = (false, eval e X.env) :: starEach [] X.env := by rfl) (hpl : (backTo pos (starEach [] X.env)).any (·.1) = false := by rfl) : VE X M σ H (.Call (.Name "all" p) [e] [] pos) (bs.all id) :=
  ve_rule (pe_callB (cr_all hc) hg hm (by decide +kernel) (pa_cons pw pa_nil he) (by decide) (by decide) he hpl) fun H1 e1 d Q q => h H1 e1 d _ fun v H2 e2 dv => by
    obtain ⟨l, vs, rfl, hl, hd⟩ := dv
    rw [all_bools hd] at hl
    exact ⟨l, bs, rfl, ex_hideL hl, q _ H2 e2 rfl⟩
theorem ve_any {bs : List Bool} (hm : X.mg "any" = none) (hc : X.calm = true) (h : VE X M σ H e bs) (hg : Gl X "any" := by rfl) (he : starEach [e] X.env = (false, eval e X.env) :: starEach [] X.env := by rfl) (hpl : (backTo pos (starEach [] X.env)).any (·.1) = false := by rfl) : VE X M σ H (.Call (.Name "any" p) [e] [] pos) (bs.any id) :=
  ve_rule (pe_callB (cr_any hc) hg hm (by decide +kernel) (pa_cons pw pa_nil he) (by decide) (by decide) he hpl) fun H1 e1 d Q q => h H1 e1 d _ fun v H2 e2 dv => by
    obtain ⟨l, vs, rfl, hl, hd⟩ := dv
    rw [all_bools hd] at hl
    exact ⟨l, bs, rfl, ex_hideL hl, q _ H2 e2 rfl⟩
/-- one sign in a text -/
theorem vc_inSign {ch : Nat} {z : Str} (ha : VE X M σ H a (⟨#[ch]⟩ : Str)) (hb : VE X M σ H b z) : VC X M σ H .In a b (decide (ch ∈ z.cps.toList)) := vc_rule (pc_op op_in_sign) fun H1 e1 d Q q => two ha hb e1 d fun v u H2 e2 _ dv du => ⟨ch, z, dv, du, q H2 e2⟩
/-- a text in a list of texts -/
theorem inV_str (x : Str) (ys : List Str) : inV (.str x) (ys.map V.str) = decide (x ∈ ys) := by
  induction ys with
  | nil => rfl
  | cons y ys ih =>
    unfold inV at ih ⊢
    rw [List.map_cons, List.any_cons, ih]
    by_cases h : x = y
    · subst h
      simp [eqV]
    · have h' : ¬ y = x := fun z => h z.symm
      have : eqV (.str y) (.str x) = false := by
        show (y == x) = false
        simpa using h'
      rw [this, Bool.false_or]
      by_cases hm : x ∈ ys
      · rw [decide_eq_true hm, decide_eq_true (List.mem_cons_of_mem _ hm)]
      · rw [decide_eq_false hm, decide_eq_false]
        intro z
        rcases List.mem_cons.mp z with z | z
        · exact h z
        · exact hm z
theorem flat_strs (ys : List Str) : (ys.map V.str).all flatV = true := by
  rw [List.all_map]
  exact List.all_eq_true.mpr fun _ _ => rfl
theorem vc_inL {x : Str} {ys : List Str} (ha : VE X M σ H a x) (hb : VE X M σ H b ys) : VC X M σ H .In a b (decide (x ∈ ys)) := vc_rule (pc_op op_in_seq) fun H1 e1 d Q q => two ha hb e1 d fun v u H2 e2 _ dv du => by
  obtain ⟨l, vs, rfl, hl, hd⟩ := du
  rw [show vs = ys.map V.str from hd.eqMap] at hl
  have q' := q H2 e2
  rw [← inV_str] at q'
  rw [show v = .str x from dv]
  exact ⟨l, _, rfl, .inl (ex_hideL hl), rfl, flat_strs ys, q'⟩
theorem vc_notInL {x : Str} {ys : List Str} (ha : VE X M σ H a x) (hb : VE X M σ H b ys) : VC X M σ H .NotIn a b (!decide (x ∈ ys)) := vc_rule (pc_op op_notIn_seq) fun H1 e1 d Q q => two ha hb e1 d fun v u H2 e2 _ dv du => by
  obtain ⟨l, vs, rfl, hl, hd⟩ := du
  rw [show vs = ys.map V.str from hd.eqMap] at hl
  have q' := q H2 e2
  rw [← inV_str] at q'
  rw [show v = .str x from dv]
  exact ⟨l, _, rfl, .inl (ex_hideL hl), rfl, flat_strs ys, q'⟩
theorem ve_addS {x y : Str} (ha : VE X M σ H a x) (hb : VE X M σ H b y) (hl : x.length + y.length ≤ 100000) : VE X M σ H (.BinOp a .Add b pos) (x ++ y) := ve_rule (pe_op op_add_str pw pw) fun H1 e1 d Q q => two ha hb e1 d fun v u H2 e2 _ dv du => ⟨x, y, dv, du, sz hl, q _ _ e2 rfl⟩
end
end Tm
set_option maxHeartbeats 4000000
namespace Tm
open PySem PySem.Spec PyProof.Rows L2
open Enc (den)
/-! ### {k: v for a in xs for b in ys} -/
abbrev dc2 (kx vx ta ia tb ib : Expr) (sc : Scope) (pos : Pos) : Expr := .DictComp kx vx [⟨ta, ia, [], 0⟩, ⟨tb, ib, [], 0⟩] sc pos
theorem dc2_first (kx vx ta ia tb ib : Expr) (sc : Scope) (pos : Pos) (it acc : Value) (env : Env) :
    compTurn (dc2 kx vx ta ia tb ib sc pos) 0 it acc env = (do
      standAt ia.pos; match ← pyNext it with
      | none => pure (.done .next)
      | some v => letOwnedTupleGo ta it v; assign ta env v; let x ← eval ib env; standAt ib.pos; let x ← foldedSetIterable ib env x; let _ ← runOwn (.compStart (dc2 kx vx ta ia tb ib sc pos) 1 (← holding [x] (pyIter x)) acc env) env; again (.compLoop (dc2 kx vx ta ia tb ib sc pos) 0 it acc env)) := by rfl
theorem dc2_second (kx vx ta ia tb ib : Expr) (sc : Scope) (pos : Pos) (it : Value) (D : Addr) (env : Env) :
    compTurn (dc2 kx vx ta ia tb ib sc pos) 1 it (.ref D) env = (do
      standAt ib.pos; match ← pyNext it with
      | none => pure (.done .next)
      | some v => letOwnedTupleGo tb it v; assign tb env v; (do let kv ← eval kx env; let vv ← holding [kv] (eval vx env); standAt { kx.pos with endLine := vx.pos.endLine, endCol := vx.pos.endCol }; holding [kv, vv] (dictSet D kv vv)); again (.compLoop (dc2 kx vx ta ia tb ib sc pos) 1 it (.ref D) env)) := by rfl
section
variable {prog : Program} {w : World} {A : Around} {R : Result → Shared → Prop} {s : Shared} {kx vx ta ia tb ib : Expr} {sc : Scope} {pos : Pos} {it acc : Value} {D : Addr} {env : Env}
abbrev NBy (prog : Program) (w : World) (A : Around) (env : Env) (R : Result → Shared → Prop) : Value → Shared → Prop := notedBy (model prog w) A env fun e s' => R (.error e) s'
theorem dc2_outer (hs : ∀ x, foldedSetIterable ib env x = pure x) (I : Nat → Shared → Prop)
    (turn : ∀ n s, I n s → wpAny (model prog w) A (pyNext it) (fun r s₁ => match r with
      | none => R (.ok .next) s₁
      | some v => wpAny (model prog w) A (letOwnedTupleGo ta it v) (fun _ t₁ => wpAny (model prog w) A (assign ta env v) (fun _ t₂ => wpAny (model prog w) A (eval ib env) (fun x t₃ => wpAny (model prog w) A (pyIter x) (fun jt t₄ =>
          codeAny (model prog w) A (.compStart (dc2 kx vx ta ia tb ib sc pos) 1 jt acc env) (fun r s' => match r with
            | .ok _ => ∃ m, m < n ∧ I m s'
            | .error _ => False) t₄) (NBy prog w A env R) t₃) (NBy prog w A env R) t₂) (NBy prog w A env R) t₁) (NBy prog w A env R) s₁) (NBy prog w A env R) s)
    (n : Nat) (h : I n s) : codeAny (model prog w) A (.compLoop (dc2 kx vx ta ia tb ib sc pos) 0 it acc env) R s := by
  refine codeAny_loop rfl I (fun n s hI => ?_) n h
  show wpAny _ A ((compTurn (dc2 kx vx ta ia tb ib sc pos) 0 it acc env).onRaise (fun x => do noteFrame x env; theTreesLotGoes x)) _ _ s
  refine wpAny_noted ?_
  rw [dc2_first]
  refine wpAny_bind (wpAny_standAt (wpAny_bind (wpAny_mono (turn n s hI) (fun r t h₁ => ?_) fun _ _ z => z)))
  cases r with
  | none => exact wpAny_pure h₁
  | some v =>
    refine wpAny_bind (wpAny_mono h₁ (fun _ t₁ g₁ => wpAny_bind (wpAny_mono g₁ (fun _ t₂ g₂ => wpAny_bind (wpAny_mono g₂ (fun x t₃ g₃ => ?_) fun _ _ z => z)) fun _ _ z => z)) fun _ _ z => z)
    refine wpAny_bind (wpAny_standAt (wpAny_bind (wpAny_of_eq (hs x) (wpAny_bind (wpAny_holding (wpAny_mono g₃ (fun jt t₄ g₄ => wpAny_bind (wpAny_runOwn ?_)) fun _ _ z => z))))))
    rw [Around.mark_none]
    refine codeAny_mono g₄ fun r s' hr => ?_
    cases r with
    | error e => exact hr.elim
    | ok f => first
        | exact wpAny_pure ⟨rfl, hr⟩
        | exact wpAny_bind (wpAny_pure (wpAny_pure ⟨rfl, hr⟩))
theorem dc2_inner (I : Nat → Shared → Prop)
    (turn : ∀ n s, I n s → wpAny (model prog w) A (pyNext it) (fun r s₁ => match r with
      | none => R (.ok .next) s₁
      | some v => wpAny (model prog w) A (letOwnedTupleGo tb it v) (fun _ t₁ => wpAny (model prog w) A (assign tb env v) (fun _ t₂ => wpAny (model prog w) A (eval kx env) (fun kv t₃ => wpAny (model prog w) A (eval vx env) (fun vv t₄ =>
          wpAny (model prog w) A (dictSet D kv vv) (fun _ t₅ => ∃ m, m < n ∧ I m t₅) (NBy prog w A env R) t₄) (NBy prog w A env R) t₃) (NBy prog w A env R) t₂) (NBy prog w A env R) t₁) (NBy prog w A env R) s₁) (NBy prog w A env R) s)
    (n : Nat) (h : I n s) : codeAny (model prog w) A (.compLoop (dc2 kx vx ta ia tb ib sc pos) 1 it (.ref D) env) R s := by
  refine codeAny_loop rfl I (fun n s hI => ?_) n h
  show wpAny _ A ((compTurn (dc2 kx vx ta ia tb ib sc pos) 1 it (.ref D) env).onRaise (fun x => do noteFrame x env; theTreesLotGoes x)) _ _ s
  refine wpAny_noted ?_
  rw [dc2_second]
  refine wpAny_bind (wpAny_standAt (wpAny_bind (wpAny_mono (turn n s hI) (fun r t h₁ => ?_) fun _ _ z => z)))
  cases r with
  | none => exact wpAny_pure h₁
  | some v =>
    exact wpAny_bind (wpAny_mono h₁ (fun _ t₁ g₁ => wpAny_bind (wpAny_mono g₁ (fun _ t₂ g₂ => wpAny_bind (wpAny_bind (wpAny_mono g₂ (fun kv t₃ g₃ => wpAny_bind (wpAny_holding (wpAny_mono g₃ (fun vv t₄ g₄ => wpAny_bind (wpAny_standAt (wpAny_holding (wpAny_mono g₄ (fun _ t₅ g₅ => wpAny_pure ⟨rfl, g₅⟩) fun _ _ z => z)))) fun _ _ z => z))) fun _ _ z => z))) fun _ _ z => z)) fun _ _ z => z)
theorem dc2_start (h0 : codeAny (model prog w) A (.compLoop (dc2 kx vx ta ia tb ib sc pos) 1 it acc env) R s)
    (h : wpAny (model prog w) A (pyIter it) (fun jt s' => codeAny (model prog w) A (.compLoop (dc2 kx vx ta ia tb ib sc pos) 1 jt acc env) R s') (NBy prog w A env R) s) :
    codeAny (model prog w) A (.compStart (dc2 kx vx ta ia tb ib sc pos) 1 it acc env) R s := by
  refine codeAny_of_tree ?_
  show wpAny _ _ ((compStart (dc2 kx vx ta ia tb ib sc pos) 1 it acc env).onRaise (fun x => do noteFrame x env; standAt theWindowsPlace)) _ _ s
  refine wpAny_notedAt ?_
  unfold compStart
  show wpAny _ _ (ask >>= _) _ _ s
  refine wpAny_bind (wpAny_askSetting (wpAny_ite ?_))
  split
  · first
      | exact wpAny_bind (wpAny_pure (wpAny_pure (And.intro rfl h0)))
      | exact wpAny_pure (And.intro rfl h0)
  · first
      | exact wpAny_bind (wpAny_rule (wpAny_bind (wpAny_standAt (wpAny_bind (wpAny_mono h (fun jt s' g => wpAny_pure (And.intro rfl g)) fun _ _ z => z)))))
      | (refine wpAny_bind (wpAny_rule ?_); show wpAny _ _ (standAt ib.pos >>= _) _ _ s; exact wpAny_bind (wpAny_standAt (wpAny_bind (wpAny_mono h (fun jt s' g => wpAny_pure (And.intro rfl g)) fun _ _ z => z))))
end
section
variable {X : Cx}
abbrev AllBlk (X : Cx) (sc : Scope) (φ : Cx → Prop) : Prop := ∀ (s : Shared) (H : Hp) (C : Addr) (cl : List (Str × Addr)) (fp : List Addr), φ (X.blk s H sc (compEnvC sc cl C X.env) fp)
/-- the reading: the dict at D is filled by an inner walk in each turn of the outer one -/
def tDc2 (wa : TI) (ga : TG) (wb : TI) (gb : TG) (tk tv : TE) (vs vs1 : List Nat) : TE := fun σ H Q => wa σ H fun J H1 => ∀ D, H1 D = none → ∃ W : Nat → Nat → Hp → Prop, (∃ m, W 0 m (upd H1 D (.dK []))) ∧ ∀ i m H, W i m H →
  (J.stop i H ∧ Q (.ref D) H) ∨ (J.go i H ∧ ∃ Nx : Hp → Prop, (∀ H', Nx H' → ∃ m', m' < m ∧ W (i + 1) m' H') ∧ ∀ x H', J.yld i H x H' → ga x (wipe σ vs) H' fun σ2 H2 => wipe σ2 vs = wipe σ vs ∧ wb σ2 H2 fun J1 H4 =>
    ∃ W1 : Nat → Nat → Hp → Prop, (∃ m, W1 0 m H4) ∧ ∀ j k H, W1 j k H →
      (J1.stop j H ∧ Nx H) ∨ (J1.go j H ∧ ∃ Nx1 : Hp → Prop, (∀ H', Nx1 H' → ∃ k', k' < k ∧ W1 (j + 1) k' H') ∧ ∀ x H', J1.yld j H x H' → gb x (wipe σ2 vs1) H' fun σ3 H5 => wipe σ3 vs1 = wipe σ2 vs1 ∧
        tk σ3 H5 fun y H6 => tv σ3 H6 fun z H7 => ∃ kvs k, y = kV k ∧ H7 D = some (.dK kvs) ∧ kvs.length < sizeLine ∧ Nx1 (upd H7 D (.dK (putK kvs k z)))))
theorem dc2_core {pins : List (Addr × Obj)} {s : Shared} {σ : L2.St} {H : Hp} {Q : VK} {use : Option (Value → Sem Unit)} {Qf : Value → Shared → Prop} {pos' : Pos} {kx vx ta ia tb ib : Expr} {sc : Scope} {own : List (Str × Nat)} {vs1 : List Nat} {pos : Pos} {wa wb : TI} {ga gb : TG} {tk tv : TE} (hc : X.calm = true) (hN : X.N.Nodup) (I : Inv X pins σ H s) (hi : PI X ta ia wa) (ok : BlkOk X.N X.env.scope sc own) (hv : ∀ i ∈ vs1, i ∈ own.map (·.2))
    (hg : AllBlk X sc fun Y => PG Y ta ga) (hi1 : AllBlk X sc fun Y => PI Y tb ib wb) (hg1 : AllBlk X sc fun Y => PG Y tb gb) (hk : AllBlk X sc fun Y => PE Y kx tk) (he : AllBlk X sc fun Y => PE Y vx tv)
    (hs : ∀ x, foldedSetIterable ia X.env x = pure x) (hs1 : ∀ env x, foldedSetIterable ib env x = pure x) (h : tDc2 wa ga wb gb tk tv (own.map (·.2)) vs1 σ H Q)
    (hRR : ∀ D C s' m H', Inv X pins σ H' s' → Q (.ref D) H' → s'.heap.Ns C m → FpOk X pins H' C → compPost (model X.prog X.w) X.A X.xe use Qf (.ref D) C (.ok .next) s') :
    wpAny (model X.prog X.w) X.A (comprehension (dc2 kx vx ta ia tb ib sc pos) sc X.env pos' newDict false (eval ia X.env) use) Qf X.xe s := by
  have caps : ∀ y ∈ sc.names, y.2 = .free → ∃ c, X.env.cells.lookup y.1 = some c := fun y hy e => (ok.free y hy e).elim (fun z => I.ok.has _ (.inl z)) fun z => I.ok.has _ (.inr z)
  refine wpAny_comprehension_free (use := use) rfl hs (closure_ok caps) ok.kind (fun y hy e => by rw [ok.uniq y hy, e]) (thn (hi.run pins s σ H _ I h) fun xv s1 hx => thn hx fun itv s2 h2 => ?_)
  obtain ⟨it, fp, tn, J, H2, e, I2, T, st2, f2, q⟩ := h2
  subst e
  refine wpAny_newObj_type (newEnv_comp ?_)
  generalize hD : s2.heap.objs.size = D
  obtain ⟨W, ⟨m0, w0⟩, turn⟩ := q D (I2.hok.fresh (Nat.le_of_eq hD))
  generalize hs3 : ({ s2 with heap := s2.heap.push { cls := .type "dict", data := .dict #[] } } : Shared) = s3
  have h3 : s3.heap = s2.heap.push { cls := .type "dict", data := .dict #[] } := by rw [← hs3]
  have I3 : Inv X pins σ (upd H2 D (.dK [])) s3 := by
    subst hs3
    subst hD
    exact I2.laid (t' := s2.toks) (fun b o e => Heap.get?_push_of_some _ e) (Nat.le_refl _) (dk_empty s2.heap I2.big)
  have f3 : ∀ b ∈ fp, FpOk X pins (upd H2 D (.dK [])) b ∧ b < s3.heap.objs.size := fun b hb => by
    obtain ⟨o, eo, _⟩ := T.obj _ _ st2 b hb
    have lt : b < s2.heap.objs.size := Heap.lt_size eo
    exact ⟨⟨by rw [upd_ne (by rw [← hD]; exact Nat.ne_of_lt lt)]; exact (f2 b hb).1, (f2 b hb).2⟩, by rw [h3, Heap.size_push]; exact Nat.lt_succ_of_lt lt⟩
  have st3 : tn 0 s3.heap := T.keep _ _ _ st2 fun b _ o e => by rw [h3]; exact Heap.get?_push_of_some _ e
  have I4 := block_start I3 ok hN f3
  generalize hcl : cellsFrom (s3.heap.objs.size + 1) sc.names (cloFrom X.env.cells sc.names []) = cl at I4 ⊢
  have pg := hg s3 (upd H2 D (.dK [])) s3.heap.objs.size cl fp
  have pi1 := hi1 s3 (upd H2 D (.dK [])) s3.heap.objs.size cl fp
  have pg1 := hg1 s3 (upd H2 D (.dK [])) s3.heap.objs.size cl fp
  have pk := hk s3 (upd H2 D (.dK [])) s3.heap.objs.size cl fp
  have pe := he s3 (upd H2 D (.dK [])) s3.heap.objs.size cl fp
  subst hcl
  generalize hce : compEnvC sc (cellsFrom (s3.heap.objs.size + 1) sc.names (cloFrom X.env.cells sc.names [])) s3.heap.objs.size X.env = ce at I4 pg pi1 pg1 pk pe ⊢
  have cL : ce.locals = s3.heap.objs.size := by subst hce; rfl
  have nfp : ∀ b ∈ fp, (upd H2 D (.dK [])) b = none := fun b hb => (f3 b hb).1.1
  generalize hH3 : upd H2 D (.dK []) = H3 at I3 I4 pg pi1 pg1 pk pe w0 nfp f3
  generalize hs4 : ({ s3 with heap := pushCells (s3.heap.push { cls := .type "dict", data := .dict #[] }) sc.names } : Shared) = s4 at I4
  have st4 : tn 0 s4.heap := T.keep _ _ _ st3 fun b _ o e => by rw [← hs4]; exact pushCells_keeps _ _ _ _ (Heap.get?_push_of_some _ e)
  have stay : ∀ {τ : L2.St} {G : Hp} {t : Shared}, Inv (X.blk s3 H3 sc ce fp) [] τ G t → (∀ b ∈ fp, G b = none) → ∀ b ∈ fp, FpOk (X.blk s3 H3 sc ce fp) [] G b := fun J' hn b hb =>
    ⟨hn b hb, (J'.ok.exf b hb).1, J'.ok.exfs b hb, .inl hb, fun x c e => (J'.ok.exf b hb).2 x c e, fun p hp => absurd (show p ∈ ([] : List (Addr × Obj)) ++ [] from hp) (by simp)⟩
  -- the block's own place behind the dict
  have loop : codeAny (model X.prog X.w) X.A (.compLoop (dc2 kx vx ta ia tb ib sc pos) 0 (.ref it) (.ref D) ce) (compPost (model X.prog X.w) X.A X.xe use Qf (.ref D) s3.heap.objs.size) s4 := by
    refine dc2_outer (hs1 ce) (fun n t => ∃ i G, Inv (X.blk s3 H3 sc ce fp) [] (wipe σ (own.map (·.2))) G t ∧ tn i t.heap ∧ (∀ b ∈ fp, G b = none) ∧ W i n G) ?_ m0 ⟨0, H3, I4, st4, nfp, w0⟩
    rintro n s5 ⟨i, H5, I5, st5, n5, w5⟩
    rcases turn i n H5 w5 with ⟨stop, qq⟩ | ⟨go, Nx, hNx, step⟩
    · refine thnF (T.done (X.blk s3 H3 sc ce fp) rfl rfl rfl hc i [] s5 _ H5 (fun _ _ => False) I5 (stay I5 n5) st5 stop) fun r s6 ⟨hr, I6⟩ => ?_
      subst hr
      have I7 : Inv X pins σ H5 s6 := I3.call' (ch := fp) I6.os I6.base I6.hok I6.bare fun b hb => ⟨(f3 b hb).1.2.2.2.1, (f3 b hb).1.2.1, (f3 b hb).1.2.2.2.2.1, (f3 b hb).1.2.2.2.2.2⟩
      have nC : H5 s3.heap.objs.size = none := cL ▸ I6.free
      obtain ⟨m, hn, _⟩ := I6.loc
      have hn' : s6.heap.Ns s3.heap.objs.size m := cL ▸ hn
      exact hRR D s3.heap.objs.size s6 m H5 I7 qq hn' (I3.fpOk (H' := H5) (Nat.le_refl _) nC)
    · refine thnF (T.item (X.blk s3 H3 sc ce fp) rfl rfl rfl hc i [] s5 _ H5 (fun _ _ => False) I5 (stay I5 n5) st5 go) fun r s6 ⟨u, hr, h6⟩ => ?_
      subst hr
      refine thnF h6 fun _ s7 ⟨x, H7, I7, r7, y7, st7, n7⟩ => ?_
      refine thnF (pg.run _ s7 _ H7 x u _ (I7.pinned (stay I7 n7) (T.obj _ _ st7)) r7 (step x H7 y7)) fun _ s8 ⟨σ8, H8, I8, hw8, q8⟩ => ?_
      have hl8 : (wipe σ (own.map (·.2))).length = σ8.length := by rw [← hw8, wipe_length]
      have hk9 : ∀ (j : Nat) v, (wipe σ (own.map (·.2)))[j]? = some (some v) → (wipe σ8 vs1)[j]? = some (some v) := fun j v e => by
        rw [← hw8] at e
        obtain ⟨e1, e2⟩ := wipe_some e
        rw [wipe_out fun z => e2 (hv j z)]
        exact e1
      -- behind the inner walk
      have fin : ∀ {τ : L2.St} {t : Shared} {G : Hp}, Inv (X.blk s3 H3 sc ce fp) ([] ++ pinsAt fp s7.heap) τ G t → (wipe σ (own.map (·.2))).length = τ.length → (∀ (j : Nat) v, (wipe σ (own.map (·.2)))[j]? = some (some v) → τ[j]? = some (some v)) → Nx G →
          ∃ m, m < n ∧ ∃ i G, Inv (X.blk s3 H3 sc ce fp) [] (wipe σ (own.map (·.2))) G t ∧ tn i t.heap ∧ (∀ b ∈ fp, G b = none) ∧ W i m G := fun {τ t G} J' hl hk nx => by
        obtain ⟨m', hm, w'⟩ := hNx G nx
        have pn : ∀ b ∈ fp, ∀ o, s7.heap.get? b = some o → t.heap.get? b = some o ∧ G b = none := fun b hb o e => by
          obtain ⟨z1, z2, _⟩ := J'.pin (b, o) (List.mem_append_right _ (List.mem_append_right _ (mem_pinsAt hb e)))
          exact ⟨z1, z2⟩
        refine ⟨m', hm, i + 1, G, (J'.unpinned (pins := [])).weak hl hk, T.keep _ _ _ st7 fun b hb o e => (pn b hb o e).1, fun b hb => ?_, w'⟩
        obtain ⟨o, e, _⟩ := T.obj _ _ st7 b hb
        exact (pn b hb o e).2
      refine thnF (pi1.run _ s8 σ8 H8 _ I8 q8) fun xv s10 hx => thnF hx fun itv s11 h11 => ?_
      obtain ⟨jt, fp1, tn1, J1, H11, e1, I11, T1, st11, f11, W1, ⟨m1, w1⟩, turn1⟩ := h11
      subst e1
      have stay1 : ∀ {G : Hp}, (∀ b ∈ fp1, G b = none) → ∀ b ∈ fp1, FpOk (X.blk s3 H3 sc ce fp) ([] ++ pinsAt fp s7.heap) G b := fun hn b hb => ⟨hn b hb, (f11 b hb).2⟩
      have loop1 : codeAny (model X.prog X.w) X.A (.compLoop (dc2 kx vx ta ia tb ib sc pos) 1 (.ref jt) (.ref D) ce) (fun r t => match r with
            | .ok _ => ∃ m, m < n ∧ ∃ i G, Inv (X.blk s3 H3 sc ce fp) [] (wipe σ (own.map (·.2))) G t ∧ tn i t.heap ∧ (∀ b ∈ fp, G b = none) ∧ W i m G
            | .error _ => False) s11 := by
        refine dc2_inner (fun k t => ∃ j G, Inv (X.blk s3 H3 sc ce fp) ([] ++ pinsAt fp s7.heap) (wipe σ8 vs1) G t ∧ tn1 j t.heap ∧ (∀ b ∈ fp1, G b = none) ∧ W1 j k G) ?_ m1 ⟨0, H11, I11.weak (wipe_length _ _) (fun j v e => (wipe_some e).1), st11, fun b hb => (f11 b hb).1, w1⟩
        rintro k s12 ⟨j, H12, I12, st12, n12, w12⟩
        rcases turn1 j k H12 w12 with ⟨stop1, nx1⟩ | ⟨go1, Nx1, hNx1, step1⟩
        · refine thnF (T1.done (X.blk s3 H3 sc ce fp) rfl rfl rfl hc j _ s12 (wipe σ8 vs1) H12 (fun _ _ => False) I12 (stay1 n12) st12 stop1) fun r s13 ⟨hr, I13⟩ => ?_
          subst hr
          exact fin I13 (hl8.trans (wipe_length σ8 vs1).symm) hk9 nx1
        · refine thnF (T1.item (X.blk s3 H3 sc ce fp) rfl rfl rfl hc j _ s12 (wipe σ8 vs1) H12 (fun _ _ => False) I12 (stay1 n12) st12 go1) fun r s13 ⟨u1, hr, h13⟩ => ?_
          subst hr
          refine thnF h13 fun _ s14 ⟨x1, H14, I14, r14, y14, st14, n14⟩ => ?_
          refine thnF (pg1.run _ s14 (wipe σ8 vs1) H14 x1 u1 _ (I14.pinned (stay1 n14) (T1.obj _ _ st14)) r14 (step1 x1 H14 y14)) fun _ s15 ⟨σ15, H15, I15, hw15, q15⟩ => ?_
          refine thnF (pk.run _ s15 σ15 H15 _ I15 q15) fun z s16 ⟨yk, H16, I16, r16, q16⟩ => ?_
          refine thnF (pe.run _ s16 σ15 H16 _ I16 q16) fun z2 s17 ⟨yv, H17, I17, r17, kvs, kk, ek, hD17, hz17, nx⟩ => ?_
          subst ek
          refine d_dictSet (X := X.blk s3 H3 sc ce fp) I17 hD17 hz17 r16 r17 fun s18 I18 => ?_
          obtain ⟨m', hm, w'⟩ := hNx1 _ nx
          have pn : ∀ b ∈ fp1, ∀ o, s14.heap.get? b = some o → s18.heap.get? b = some o ∧ (upd H17 D (.dK (putK kvs kk yv))) b = none := fun b hb o e => by
            obtain ⟨z1, z2, _⟩ := I18.pin (b, o) (List.mem_append_right _ (List.mem_append_right _ (mem_pinsAt hb e)))
            exact ⟨z1, z2⟩
          refine ⟨m', hm, j + 1, _, I18.unpinned.weak (by rw [← hw15, wipe_length]) (fun j v e => by rw [← hw15] at e; exact (wipe_some e).1), T1.keep _ _ _ st14 fun b hb o e => (pn b hb o e).1, fun b hb => ?_, w'⟩
          obtain ⟨o, e, _⟩ := T1.obj _ _ st14 b hb
          exact (pn b hb o e).2
      exact dc2_start loop1 (T1.self X.A 0 _ _ _ st11 loop1)
  have fin := codeAny_compStart_dict loop (T.self X.A 0 _ _ _ st4 loop)
  subst hce
  exact fin
theorem pe_dc2 {kx vx ta ia tb ib : Expr} {sc : Scope} {own : List (Str × Nat)} {vs1 : List Nat} {pos : Pos} {wa wb : TI} {ga gb : TG} {tk tv : TE} (hc : X.calm = true) (hN : X.N.Nodup) (hi : PI X ta ia wa) (ok : BlkOk X.N X.env.scope sc own) (hv : ∀ i ∈ vs1, i ∈ own.map (·.2))
    (hg : AllBlk X sc fun Y => PG Y ta ga) (hi1 : AllBlk X sc fun Y => PI Y tb ib wb) (hg1 : AllBlk X sc fun Y => PG Y tb gb) (hk : AllBlk X sc fun Y => PE Y kx tk) (he : AllBlk X sc fun Y => PE Y vx tv)
    (hs : ∀ x, foldedSetIterable ia X.env x = pure x := by intro _; rfl) (hs1 : ∀ env x, foldedSetIterable ib env x = pure x := by intro _ _; rfl) : PE X (dc2 kx vx ta ia tb ib sc pos) (tDc2 wa ga wb gb tk tv (own.map (·.2)) vs1) := by
  refine ⟨fun pins s σ H Q I h => ?_⟩
  rw [arm_eval_DictComp]
  refine dc2_core hc hN I hi ok hv hg hi1 hg1 hk he hs hs1 h fun D C s' m H' I' q hn f => ⟨m, hn, fun h'' sb => ?_⟩
  obtain ⟨f0, f1, f2, f3, f4, f5⟩ := f
  exact ⟨.ref D, H', I'.turned (t' := s'.toks) (fun b o hb e => (sb.2 b hb).trans e) f0 f1 f3 f4 f5, rfl, q⟩
theorem ps_setDc2 {i : Nat} {y : Str} {py spos : Pos} {kx vx ta ia tb ib : Expr} {sc : Scope} {own : List (Str × Nat)} {vs1 : List Nat} {pos : Pos} {wa wb : TI} {ga gb : TG} {tk tv : TE} (hc : X.calm = true) (hN : X.N.Nodup) (hy : X.N[i]? = some y) (hyl : X.env.scope.names.lookup y = some .local) (hsw : swapsWith (dc2 kx vx ta ia tb ib sc pos) (some (.Name y py)) spos.line X.env = pure true) (hi : PI X ta ia wa) (ok : BlkOk X.N X.env.scope sc own) (hv : ∀ i ∈ vs1, i ∈ own.map (·.2))
    (hg : AllBlk X sc fun Y => PG Y ta ga) (hi1 : AllBlk X sc fun Y => PI Y tb ib wb) (hg1 : AllBlk X sc fun Y => PG Y tb gb) (hk : AllBlk X sc fun Y => PE Y kx tk) (he : AllBlk X sc fun Y => PE Y vx tv)
    (hs : ∀ x, foldedSetIterable ia X.env x = pure x := by intro _; rfl) (hs1 : ∀ env x, foldedSetIterable ib env x = pure x := by intro _ _; rfl) : PS X (.Assign [.Name y py] (dc2 kx vx ta ia tb ib sc pos) spos) (tAsg (tDc2 wa ga wb gb tk tv (own.map (·.2)) vs1) (gName i)) := by
  refine ⟨fun pins s σ H D I h => ?_⟩
  rw [exec_Assign_Name_used _ _ _ _ hsw]
  refine wpAny_bind (wpAny_standAt (wpAny_bind ?_))
  show wpAny _ X.A (do let _ ← comprehension (dc2 kx vx ta ia tb ib sc pos) sc X.env (firstIterPos [⟨ta, ia, [], 0⟩, ⟨tb, ib, [], 0⟩] pos) newDict false (eval ia X.env) (some (assign (.Name y py) X.env))) _ _ s
  have h : tDc2 wa ga wb gb tk tv (own.map (·.2)) vs1 σ H (fun x H1 => gName i x σ H1 D.nx) := h
  refine wpAny_bind (thn (dc2_core (Qf := fun _ s' => SP X pins D .next s') hc hN I hi ok hv hg hi1 hg1 hk he hs hs1 h fun L C s' m H' I' q hn f => ?_) fun _ s' hq => wpAny_pure (wpAny_pure hq))
  show wpAny _ _ (assign (.Name y py) X.env (.ref L)) _ _ _
  refine wpAny_assign_Name (store_ok2 (v := V.ref L) I' hN hy (.inl hyl) rfl (fun s2 I2 ⟨a, sb, ha⟩ => ?_) (.inr hyl))
  obtain ⟨f0, f1, f2, f3, f4, f5⟩ := f
  have haC : C ≠ a := by
    rcases ha with z | z
    · rw [z]; exact f1
    · exact fun e => f4 y a z e.symm
  refine ⟨m, hn.sameBut sb haC, fun h3 sb3 => ?_⟩
  exact ⟨_, H', I2.turned (t' := s2.toks) (fun b o hb e => (sb3.2 b hb).trans e) f0 f1 f3 f4 f5, q⟩
theorem sw_trueD {kx vx : Expr} {gs : List Comprehension} {scope : Scope} {pos py : Pos} {y : Str} {l : Nat} {env : Env} (hk : env.scope.kind = .function) (hy : env.scope.names.lookup y = some .local) (hl : (py.line == pos.line) = true)
    (ha : (scope.names.any fun (n, k) => n == y && (k == .local || k == .cell)) = false) : swapsWith (.DictComp kx vx gs scope pos) (some (.Name y py)) l env = pure true := by
  have ky : env.kindOf y = some .local := hy
  have hb : env.blockKind = .function := by unfold Env.blockKind; rw [hk]; rfl
  unfold swapsWith
  simp only [hb, ky, ha, Expr.pos, hl]
  rfl
end
end Tm
set_option maxHeartbeats 2000000
namespace Tm
open PySem PySem.Spec PyProof.Rows L2
open Enc (den)
/-! ### texts in their order -/
def leS (a b : Str) : Prop := a.cps.toList ≤ b.cps.toList
instance (a b : Str) : Decidable (leS a b) := inferInstanceAs (Decidable (_ ≤ _))
theorem leS_anti {a b : Str} (h : leS a b) (h' : leS b a) : a = b := by
  have e : a.cps.toList = b.cps.toList := List.le_antisymm h h'
  obtain ⟨⟨x⟩⟩ := a
  obtain ⟨⟨y⟩⟩ := b
  exact congrArg (fun l : List Nat => (⟨⟨l⟩⟩ : Str)) e
theorem leS_total (a b : Str) : leS a b ∨ leS b a := List.le_total _ _
theorem leS_trans {a b c : Str} (h : leS a b) (h' : leS b c) : leS a c := List.le_trans h h'
theorem sortedS_pw : ∀ {l : List Str}, sortedS l = true → l.Pairwise leS := by
  have go : ∀ (l : List Str) (p : Str), risingS p l = true → (p :: l).Pairwise leS := by
    intro l
    induction l with
    | nil => intro p _; exact List.pairwise_cons.mpr ⟨fun _ h => (by cases h), .nil⟩
    | cons x r ih =>
      intro p h
      obtain ⟨h1, h2⟩ := Bool.and_eq_true_iff.mp (show (!Spec.ltCps x.cps.toList p.cps.toList && risingS x r) = true from h)
      rw [PyProof.Rows.ltCps_eq] at h1
      have h3 : leS p x := by
        have : decide (x.cps.toList < p.cps.toList) = false := by simpa using h1
        exact of_decide_eq_false this
      have h4 := ih x h2
      refine List.pairwise_cons.mpr ⟨fun y hy => ?_, h4⟩
      rcases List.mem_cons.mp hy with e | e
      · rw [e]; exact h3
      · exact leS_trans h3 ((List.pairwise_cons.mp h4).1 y e)
  intro l h
  cases l with
  | nil => exact .nil
  | cons x r => exact go r x h
/-- the texts in their order -/
def srt (l : List Str) : List Str := l.mergeSort fun a b => decide (leS a b)
theorem srt_perm (l : List Str) : (srt l).Perm l := List.mergeSort_perm l _
theorem srt_pw (l : List Str) : (srt l).Pairwise leS := by
  have h := List.pairwise_mergeSort (le := fun a b : Str => decide (leS a b)) (fun a b c h1 h2 => decide_eq_true (leS_trans (of_decide_eq_true h1) (of_decide_eq_true h2))) (fun a b => by
    rcases leS_total a b with z | z
    · rw [decide_eq_true z]; rfl
    · rw [decide_eq_true z]; simp) l
  exact h.imp fun z => of_decide_eq_true z
theorem srt_one {l m : List Str} (hp : m.Perm l) (hs : sortedS m = true) : m = srt l :=
  List.Perm.eq_of_pairwise (fun _ _ _ _ h1 h2 => leS_anti h1 h2) (sortedS_pw hs) (srt_pw l) (hp.trans (srt_perm l).symm)
/-! ### dicts as lists of pairs -/
section
variable {β : Type}
def aGet (kv : List (Str × β)) (k : Str) : Option β := (kv.find? fun z => decide (z.1 = k)).map (·.2)
def aPut (kv : List (Str × β)) (k : Str) (b : β) : List (Str × β) := if (kv.any fun z => decide (z.1 = k)) = true then kv.map (fun z => if z.1 = k then (z.1, b) else z) else kv ++ [(k, b)]
/-- a dict's entries stand for these pairs -/
abbrev DK [Enc β] (K : PySem.W.Frag) (H : Hp) (kvs : List (Key × V)) (kv : List (Str × β)) : Prop := All2 (fun (q : Key × V) (z : Str × β) => q.1 = Sum.inr z.1 ∧ den K H q.2 z.2) kvs kv
variable [Enc β] {K : PySem.W.Frag} {H H' : Hp} {kvs : List (Key × V)} {kv : List (Str × β)}
theorem DK.mono (h : DK K H kvs kv) (e : Ex H H') : DK K H' kvs kv := h.imp fun _ _ z => ⟨z.1, Enc.mono e z.2⟩
theorem DK.key (q : Key × V) (z : Str × β) (k : Str) (h : q.1 = Sum.inr z.1) : decide (q.1 = Sum.inr k) = decide (z.1 = k) := by
  rw [h]
  by_cases e : z.1 = k
  · rw [e]; simp
  · rw [decide_eq_false e, decide_eq_false fun y => e (Sum.inr.inj y)]
theorem DK.get (h : DK K H kvs kv) (k : Str) : match valV kvs (Sum.inr k : Key), aGet kv k with
    | some v, some b => den K H v b
    | none, none => True
    | _, _ => False := by
  induction h with
  | nil => exact True.intro
  | @cons q z l m r _ ih =>
    by_cases e : z.1 = k
    · have e1 : valV (q :: l) (Sum.inr k : Key) = some q.2 := valV_pos (by rw [r.1, e])
      have e2 : aGet (z :: m) k = some z.2 := by unfold aGet; rw [List.find?_cons, decide_eq_true e]; rfl
      rw [e1, e2]
      exact r.2
    · have e1 : valV (q :: l) (Sum.inr k : Key) = valV l (Sum.inr k : Key) := valV_neg (by rw [r.1]; exact fun y => e (Sum.inr.inj y))
      have e2 : aGet (z :: m) k = aGet m k := by unfold aGet; rw [List.find?_cons, decide_eq_false e]
      rw [e1, e2]
      exact ih
theorem DK.some (h : DK K H kvs kv) {k : Str} {b : β} (e : aGet kv k = some b) : ∃ v, valV kvs (Sum.inr k : Key) = some v ∧ den K H v b := by
  have g := h.get k
  rw [e] at g
  cases q : valV kvs (Sum.inr k : Key) with
  | none => rw [q] at g; exact g.elim
  | some v => rw [q] at g; exact ⟨v, rfl, g⟩
theorem DK.none (h : DK K H kvs kv) {k : Str} (e : aGet kv k = none) : valV kvs (Sum.inr k : Key) = none := by
  have g := h.get k
  rw [e] at g
  cases q : valV kvs (Sum.inr k : Key) with
  | none => rfl
  | some v => rw [q] at g; exact g.elim
theorem DK.isSome (h : DK K H kvs kv) (k : Str) : (valV kvs (Sum.inr k : Key)).isSome = (aGet kv k).isSome := by
  cases e : aGet kv k with
  | none => rw [h.none e]; rfl
  | some b => obtain ⟨v, q, _⟩ := h.some e; rw [q]; rfl
theorem DK.any (h : DK K H kvs kv) (k : Str) : (kvs.any fun q => decide (q.1 = (Sum.inr k : Key))) = kv.any fun z => decide (z.1 = k) := by
  induction h with
  | nil => rfl
  | @cons q z l m r _ ih => rw [List.any_cons, List.any_cons, DK.key q z k r.1, ih]
theorem DK.put (h : DK K H kvs kv) (k : Str) {v : V} {b : β} (d : den K H v b) : DK K H (putK kvs (Sum.inr k : Key) v) (aPut kv k b) := by
  unfold putK aPut
  rw [h.any k]
  by_cases e : (kv.any fun z => decide (z.1 = k)) = true
  · rw [if_pos e, if_pos e]
    clear e
    induction h with
    | nil => exact .nil
    | @cons q z l m r _ ih =>
      refine .cons ?_ ih
      dsimp only
      by_cases e : z.1 = k
      · rw [if_pos e, if_pos (by rw [r.1, e])]
        exact ⟨r.1, d⟩
      · rw [if_neg e, if_neg (by rw [r.1]; exact fun y => e (Sum.inr.inj y))]
        exact r
  · rw [if_neg e, if_neg e]
    exact h.app (.cons ⟨rfl, d⟩ .nil)
theorem DK.keys (h : DK K H kvs kv) : kvs.map (·.1) = (kv.map (·.1)).map Sum.inr := by
  induction h with
  | nil => rfl
  | cons r _ ih => rw [List.map_cons, List.map_cons, List.map_cons, ih, r.1]
end
/-! ### fields and dicts in expressions -/
section
variable {X : Cx} {M : List Addr} {σ : L2.St} {H H' : Hp} {e o a b c : Expr} {es : List Expr} {pos p apos : Pos} {α β γ : Type} [Enc α] [Enc β] [Enc γ]
/-- o.f, o an instance -/
theorem ve_fld {C dx q : Addr} {fs : List (Str × V)} {f : Str} {v : V} (ho : VE X M σ H o (V.ref q)) (hq : H q = some (.ins C dx fs)) (cl : Cls X.K C) (na : NoAttr X.K C f) (hl : fs.lookup f = some v) (hb : attributeBase o f X.env (eval o X.env) = eval o X.env := by rfl) : VE X M σ H (.Attribute o f pos) v :=
  ve_rule (pe_fld pw hb) fun H1 e1 d Q k => ho H1 e1 d _ fun u H2 e2 du => ⟨q, C, dx, fs, v, du, Ex.tr e1 e2 q _ hq, cl, na, hl, k v H2 e2 rfl⟩
/-- k in d -/
theorem vc_inD {x : Str} {t : Dct β} (hu : X.A.units + 1 < cLine) (ha : VE X M σ H a x) (hb : VE X M σ H b t) : VC X M σ H .In a b (aGet t.kv x).isSome := vc_rule (pc_din hu pw pw) fun H1 e1 d Q q => two ha hb e1 d fun v u H2 e2 _ dv du => by
  obtain ⟨l, od, kvs, rfl, hl, hd⟩ := du
  refine ⟨l, valV kvs (Sum.inr x : Key), rfl, .inl ⟨kvs, Sum.inr x, .inr ⟨od, (hide_some hl).2⟩, dv, rfl⟩, ?_⟩
  rw [DK.isSome hd]
  exact q H2 e2
theorem vc_inDM {x : Str} {l : Addr} {kvs : List (Key × V)} {kv : List (Str × β)} (hu : X.A.units + 1 < cLine) (ha : VE X M σ H a x) (hb : VE X M σ H b (V.ref l)) (hl : H l = some (.dK kvs)) (hd : DK X.K (hide M H) kvs kv) : VC X M σ H .In a b (aGet kv x).isSome := vc_rule (pc_din hu pw pw) fun H1 e1 d Q q => two ha hb e1 d fun v u H2 e2 _ dv du => by
  refine ⟨l, valV kvs (Sum.inr x : Key), du, .inl ⟨kvs, Sum.inr x, .inl (Ex.tr e1 e2 l _ hl), dv, rfl⟩, ?_⟩
  rw [DK.isSome hd]
  exact q H2 e2
theorem vc_notInD {x : Str} {t : Dct β} (hu : X.A.units + 1 < cLine) (ha : VE X M σ H a x) (hb : VE X M σ H b t) : VC X M σ H .NotIn a b (!(aGet t.kv x).isSome) := vc_rule (pc_dnotin hu pw pw) fun H1 e1 d Q q => two ha hb e1 d fun v u H2 e2 _ dv du => by
  obtain ⟨l, od, kvs, rfl, hl, hd⟩ := du
  refine ⟨l, valV kvs (Sum.inr x : Key), rfl, .inl ⟨kvs, Sum.inr x, .inr ⟨od, (hide_some hl).2⟩, dv, rfl⟩, ?_⟩
  rw [DK.isSome hd]
  exact q H2 e2
theorem vc_notInDM {x : Str} {l : Addr} {kvs : List (Key × V)} {kv : List (Str × β)} (hu : X.A.units + 1 < cLine) (ha : VE X M σ H a x) (hb : VE X M σ H b (V.ref l)) (hl : H l = some (.dK kvs)) (hd : DK X.K (hide M H) kvs kv) : VC X M σ H .NotIn a b (!(aGet kv x).isSome) := vc_rule (pc_dnotin hu pw pw) fun H1 e1 d Q q => two ha hb e1 d fun v u H2 e2 _ dv du => by
  refine ⟨l, valV kvs (Sum.inr x : Key), du, .inl ⟨kvs, Sum.inr x, .inl (Ex.tr e1 e2 l _ hl), dv, rfl⟩, ?_⟩
  rw [DK.isSome hd]
  exact q H2 e2
/-- d[k] -/
theorem ve_dget {x : Str} {t : Dct β} {y : β} (hu : X.A.units + 1 < cLine) (ha : VE X M σ H a t) (hb : VE X M σ H b x) (hy : aGet t.kv x = some y) (hs : NoSl b := by exact fun _ _ => rfl) : VE X M σ H (.Subscript a b pos) y := ve_rule (pe_dget hu pw pw hs) fun H1 e1 d Q q => two ha hb e1 d fun v u H2 e2 _ dv du => by
  obtain ⟨l, od, kvs, rfl, hl, hd⟩ := dv
  obtain ⟨z, hz, dz⟩ := DK.some hd hy
  exact ⟨l, z, rfl, .inl ⟨kvs, Sum.inr x, .inr ⟨od, (hide_some hl).2⟩, du, hz.symm⟩, q z H2 e2 dz⟩
theorem ve_dgetM {x : Str} {l : Addr} {kvs : List (Key × V)} {kv : List (Str × β)} {y : β} (hu : X.A.units + 1 < cLine) (ha : VE X M σ H a (V.ref l)) (hb : VE X M σ H b x) (hl : H l = some (.dK kvs)) (hd : DK X.K (hide M H) kvs kv) (hy : aGet kv x = some y) (hs : NoSl b := by exact fun _ _ => rfl) : VE X M σ H (.Subscript a b pos) y := ve_rule (pe_dget hu pw pw hs) fun H1 e1 d Q q => two ha hb e1 d fun v u H2 e2 _ dv du => by
  obtain ⟨z, hz, dz⟩ := hd.some hy
  exact ⟨l, z, dv, .inl ⟨kvs, Sum.inr x, .inl (Ex.tr e1 e2 l _ hl), du, hz.symm⟩, q z H2 e2 (Enc.mono (Ex.hide (Ex.tr e1 e2)) dz)⟩
/-! sorted -/
theorem ve_sortedL {xs : List Str} (hm : X.mg "sorted" = none) (h : VE X M σ H e xs) (h64 : xs.length < 64) (hg : Gl X "sorted" := by rfl) (he : starEach [e] X.env = (false, eval e X.env) :: starEach [] X.env := by rfl) (hpl : (backTo pos (starEach [] X.env)).any (·.1) = false := by rfl) : VE X M σ H (.Call (.Name "sorted" p) [e] [] pos) (srt xs) :=
  ve_rule (pe_callB cr_sortedS hg hm (by decide +kernel) (pa_cons pw pa_nil he) (by decide) (by decide) he hpl) fun H1 e1 d Q q => h H1 e1 d _ fun v H2 e2 dv => by
    obtain ⟨l, vs, rfl, hl, hd⟩ := dv
    rw [show vs = xs.map V.str from hd.eqMap] at hl
    refine ⟨l, xs, rfl, ex_hideL hl, h64, fun ys r hp hs hr => ?_⟩
    rw [srt_one hp hs]
    exact q _ _ (Ex.tr e2 (Ex.new hr)) ⟨r, _, rfl, sq_new (d.ex e2) hr, All2.ofMap fun _ _ => rfl⟩
theorem ve_sortedD {t : Dct β} (hm : X.mg "sorted" = none) (hc : X.calm = true) (h : VE X M σ H e t) (h64 : t.kv.length < 64) (hg : Gl X "sorted" := by rfl) (he : starEach [e] X.env = (false, eval e X.env) :: starEach [] X.env := by rfl) (hpl : (backTo pos (starEach [] X.env)).any (·.1) = false := by rfl) : VE X M σ H (.Call (.Name "sorted" p) [e] [] pos) (srt (t.kv.map (·.1))) :=
  ve_rule (pe_callB (call_sortedD hc) hg hm (by decide +kernel) (pa_cons pw pa_nil he) (by decide) (by decide) he hpl) fun H1 e1 d Q q => h H1 e1 d _ fun v H2 e2 dv => by
    obtain ⟨l, od, kvs, rfl, hl, hd⟩ := dv
    refine ⟨l, kvs, t.kv.map (·.1), rfl, .inr ⟨od, (hide_some hl).2⟩, DK.keys hd, by rw [List.length_map]; exact h64, fun ys r hp hs hr => ?_⟩
    rw [srt_one hp hs]
    exact q _ _ (Ex.tr e2 (Ex.new hr)) ⟨r, _, rfl, sq_new (d.ex e2) hr, All2.ofMap fun _ _ => rfl⟩
theorem ve_sortedDM {l : Addr} {kvs : List (Key × V)} {kv : List (Str × β)} (hm : X.mg "sorted" = none) (hc : X.calm = true) (h : VE X M σ H e (V.ref l)) (hl : H l = some (.dK kvs)) (hd : DK X.K (hide M H) kvs kv) (h64 : kv.length < 64) (hg : Gl X "sorted" := by rfl) (he : starEach [e] X.env = (false, eval e X.env) :: starEach [] X.env := by rfl) (hpl : (backTo pos (starEach [] X.env)).any (·.1) = false := by rfl) : VE X M σ H (.Call (.Name "sorted" p) [e] [] pos) (srt (kv.map (·.1))) :=
  ve_rule (pe_callB (call_sortedD hc) hg hm (by decide +kernel) (pa_cons pw pa_nil he) (by decide) (by decide) he hpl) fun H1 e1 d Q q => h H1 e1 d _ fun v H2 e2 dv => by
    refine ⟨l, kvs, kv.map (·.1), by rw [show v = .ref l from dv], .inl (Ex.tr e1 e2 l _ hl), hd.keys, by rw [List.length_map]; exact h64, fun ys r hp hs hr => ?_⟩
    rw [srt_one hp hs]
    exact q _ _ (Ex.tr e2 (Ex.new hr)) ⟨r, _, rfl, sq_new (d.ex e2) hr, All2.ofMap fun _ _ => rfl⟩
end
end Tm
set_option maxHeartbeats 4000000
/-! sets of texts: set(xs), then sorted -/
namespace Tm
open PySem PySem.Spec PyProof.Rows L2
open Enc (den)
def kTx (e : Int × Value) : Str := match e.2 with
  | .str x _ => x
  | _ => Str.empty
def TxE (w : World) (e : Int × Value) : Prop := ∃ x tk, e.2 = Value.str x tk ∧ e.1 = hashStr w x
/-- the set at a: just the texts of l, each once -/
def TxSet (w : World) (h : Heap) (a : Addr) (l : List Str) : Prop :=
  ∃ o es ep t, h.get? a = some o ∧ o.ExactSet ∧ o.data = .set es ep t ∧ (∀ e ∈ es.toList, TxE w e) ∧ (es.toList.map kTx).Perm l ∧ l.Nodup ∧ es.size < scanBound ∧ t.fits es.size = true ∧ Ris t.place.toList ∧ (w.params.followText "set-order" = true ∨ t.led = true)
section
variable {P : Program} {w : World} {h h' : Heap} {a : Addr} {l : List Str}
theorem TxSet.at (R : TxSet w h a l) (k : ∀ o, h.get? a = some o → h'.get? a = some o) : TxSet w h' a l := by
  obtain ⟨o, es, ep, t, ho, r⟩ := R
  exact ⟨o, es, ep, t, k o ho, r⟩
abbrev SK (P : Program) (w : World) : PySem.KeyKind P w Str := PySem.strKind P w
theorem tx_is (x : Str) (tk : Tok) : (SK P w).is x (.str x tk) = true := by
  show Value.isStrOf x (.str x tk) = true
  simp [Value.isStrOf]
theorem tx_isk {e : Int × Value} (g : TxE w e) (x : Str) : (SK P w).is x e.2 = true ↔ kTx e = x := by
  obtain ⟨y, tk, h1, _⟩ := g
  unfold kTx
  rw [h1]
  show Value.isStrOf x (.str y tk) = true ↔ y = x
  constructor
  · intro q
    obtain ⟨t, e⟩ := Value.isStrOf_shape q
    injection e
  · intro q
    subst q
    exact tx_is (P := P) (w := w) y tk
theorem tx_elems {m : List (Int × Value)} (g : ∀ e ∈ m, TxE w e) : ElemsOf (SK P w) m := fun e he => by
  obtain ⟨x, tk, h1, h2⟩ := g e he
  refine ⟨⟨x, by rw [h1]; exact tx_is x tk, h2⟩, by rw [h1]; rfl⟩
theorem tx_mem {m : List (Int × Value)} (g : ∀ e ∈ m, TxE w e) (x : Str) : x ∈ m.map kTx ↔ ∃ e ∈ m, (SK P w).is x e.2 = true := by
  rw [List.mem_map]
  exact ⟨fun ⟨e, he, q⟩ => ⟨e, he, (tx_isk (g e he) x).2 q⟩, fun ⟨e, he, q⟩ => ⟨e, he, (tx_isk (g e he) x).1 q⟩⟩
end
section
variable {P : Program} {w : World} {A : Around} {E : Value → Shared → Prop} {s : Shared} {a : Addr} {l : List Str}
/-- one text more -/
def addS (l : List Str) (x : Str) : List Str := if x ∈ l then l else l ++ [x]
theorem tx_tail {g : Bool → Sem Unit} (hg : ∀ (b : Bool) (s₁ : Shared) (Q' : Unit → Shared → Prop), Q' () s₁ → wpAny (model P w) A (g b) Q' E s₁)
    {o : Obj} {es : Array (Int × Value)} {ep : Nat} {t : SetTable} (ho : s.heap.get? a = some o) (hex : o.ExactSet) (hd : o.data = .set es ep t)
    {es1 : Array (Int × Value)} {t2 : SetTable} {m : List Str} (g1 : ∀ e ∈ es1.toList, TxE w e) (p1 : (es1.toList.map kTx).Perm m) (nd : m.Nodup)
    (hb1 : es1.size < scanBound) (hf2 : t2.fits es1.size = true) (hr : Ris t2.place.toList) (hl : w.params.followText "set-order" = true ∨ t2.led = true) {was : Bool} {R : Option Bool → Shared → Prop}
    (hR : ∀ h', Heap.SameBut a s.heap h' → TxSet w h' a m → R (some true) { s with heap := h' }) :
    wpAny (model P w) A (do
        storeSet a es1 t2
        if (!was && t2.tooFull) = true then do
            g (relayAll t2 es1 (SetTable.grown es1.size)).2.2
            storeSet a (relayAll t2 es1 (SetTable.grown es1.size)).1 (relayAll t2 es1 (SetTable.grown es1.size)).2.1
            pure (some true)
          else pure (some true)) R E s := by
  refine wpAny_bind (wpAny_storeSet_of ho hd ?_ (fits_of_scanBound hb1))
  have u1 := L2.store_at (es' := es1) (t' := t2) ho hd
  have b1 := Heap.SameBut.update s.heap a (Obj.putSet es1 t2)
  split
  · have q1 := relayAll_perm t2 es1 (SetTable.grown es1.size)
    have q2 := relayAll_fits t2 es1 (SetTable.grown es1.size)
    have q3 := L2.relayAll_ris t2 es1 (SetTable.grown es1.size)
    have q4 := L2.relayAll_led t2 es1 (SetTable.grown es1.size)
    generalize relayAll t2 es1 (SetTable.grown es1.size) = Z at q1 q2 q3 q4 ⊢
    obtain ⟨es2, t3, gave⟩ := Z
    dsimp only at q1 q2 q3 q4 ⊢
    have ez : es2.size = es1.size := by rw [← Array.length_toList, q1.length_eq, Array.length_toList]
    have hb2 : es2.size < scanBound := by rw [ez]; exact hb1
    refine wpAny_bind (hg _ _ _ (wpAny_bind (wpAny_storeSet_of u1 rfl ?_ (fits_of_scanBound hb2))))
    have u2 := L2.store_at (es' := es2) (t' := t3) u1 rfl
    exact wpAny_pure (hR _ (b1.trans (Heap.SameBut.update _ a _)) ⟨_, es2, _, t3, u2, hex, rfl, fun e he => g1 e (q1.mem_iff.mp he), (q1.map kTx).trans p1, nd, hb2, q2, q3, hl.imp id fun z => by rw [q4]; exact z⟩)
  · exact wpAny_pure (hR _ b1 ⟨_, es1, _, t2, u1, hex, rfl, g1, p1, nd, hb1, hf2, hr, hl⟩)
theorem tx_add {x : Str} {tk : Tok} {Q : Bool → Shared → Prop} (R : TxSet w s.heap a l) (room : l.length + 1 < scanBound)
    (hQ : ∀ h' b, Heap.SameBut a s.heap h' → TxSet w h' a (addS l x) → Q b { s with heap := h' }) :
    wpAny (model P w) A (setAddHashed a (.str x tk) ((SK P w).hash x)) Q E s := by
  obtain ⟨o, es, ep, t, ho, hex, hd, g, pm0, nd, hb, hf, hr, hl⟩ := R
  have hsc : (Value.str x tk).scannable = true := rfl
  have hel : ElemsOf (SK P w) es.toList := tx_elems g
  unfold setAddHashed setAddHashedIn
  refine wpAny_holding (wpAny_bind (wpAny_setState_of ho hd hf ?_))
  dsimp only
  rw [byScan_of hsc hb hel]
  simp only [↓reduceIte]
  unfold setAddByScan
  refine wpAny_bind (wpAny_bind (wpAny_rule (wpAny_bind (wpAny_setScan_of (tx_is x tk) ho hd hf hel ?_))))
  cases hfi : List.findIdx? (fun e => (SK P w).is x e.2) es.toList with
  | some j =>
    dsimp only
    obtain ⟨hj, pj, _⟩ := List.findIdx?_eq_some_iff_getElem.mp hfi
    have hx : x ∈ l := pm0.mem_iff.mp ((tx_mem (P := P) g x).2 ⟨es.toList[j], List.getElem_mem hj, pj⟩)
    refine wpAny_pure (wpAny_pure (hQ s.heap _ (Heap.SameBut.refl a s.heap) ?_))
    unfold addS
    rw [if_pos hx]
    exact ⟨o, es, ep, t, ho, hex, hd, g, pm0, nd, hb, hf, hr, hl⟩
  | none =>
    dsimp only
    have hx : x ∉ l := fun z => by
      obtain ⟨e, he, q⟩ := (tx_mem (P := P) g x).1 (pm0.mem_iff.mpr z)
      have c := List.findIdx?_eq_none_iff.mp hfi e he
      rw [q] at c
      cases c
    have gw : ∀ (b : Bool) {s₁ : Shared} {Q' : Unit → Shared → Prop}, Q' () s₁ → wpAny (model P w) A (match b with | true => rule "set.scan.the-table-gave-way" | false => pure ()) Q' E s₁ :=
      fun b s₁ Q' q => by cases b <;> first | exact wpAny_pure q | exact wpAny_rule q
    have q1 := layNew_perm t es ((SK P w).hash x) (.str x tk)
    have q2 := layNew_fits t es ((SK P w).hash x) (.str x tk)
    have q3 := L2.layNew_ris t es ((SK P w).hash x) (.str x tk) hr
    have q4 := L2.layNew_led t es ((SK P w).hash x) (.str x tk)
    generalize layNew t es ((SK P w).hash x) (.str x tk) = Z at q1 q2 q3 q4 ⊢
    obtain ⟨es1, t1, was, gave⟩ := Z
    dsimp only at q1 q2 q3 q4 ⊢
    rw [Array.toList_push] at q1
    have pk : (es1.toList.map kTx).Perm (addS l x) := by
      unfold addS
      rw [if_neg hx]
      refine (q1.map kTx).trans ?_
      rw [List.map_append]
      exact pm0.append_right _
    have g1 : ∀ e ∈ es1.toList, TxE w e := fun e he => by
      rcases List.mem_append.mp (q1.mem_iff.mp he) with z | z
      · exact g e z
      · rw [List.mem_singleton.mp z]
        exact ⟨x, tk, rfl, rfl⟩
    have nd1 : (addS l x).Nodup := by
      unfold addS
      rw [if_neg hx]
      exact List.nodup_append.mpr ⟨nd, by simp, fun y hy z hz e => hx (by rw [List.mem_singleton.mp hz] at e; rw [← e]; exact hy)⟩
    have ez : es1.size = l.length + 1 := by
      rw [← Array.length_toList, ← List.length_map (f := kTx), pk.length_eq]
      unfold addS
      rw [if_neg hx, List.length_append]
      rfl
    have hb1 : es1.size < scanBound := by rw [ez]; exact room
    have hled : w.params.followText "set-order" = true ∨ t1.led = true := hl.imp id fun z => by rw [q4]; exact z
    refine wpAny_bind (gw _ ?_)
    split
    · refine wpAny_bind ?_
      rw [hashByValue_scannable 8 hsc]
      refine wpAny_pure (tx_tail ?_ ho hex hd g1 pk nd1 hb1 ?_ ?_ ?_ ?_)
      · intro b s₁ Q' q; cases b <;> first | exact wpAny_pure q | exact wpAny_rule q
      · first | (split <;> first | exact q2 | exact SetTable.fits_plain_off q2) | exact q2
      · first | (split <;> exact q3) | exact q3
      · first | (split <;> exact hled) | exact hled
      · intro h' sb r; dsimp only; exact wpAny_pure (hQ h' _ sb r)
    · refine wpAny_bind (wpAny_pure ?_)
      simp only [↓reduceIte]
      refine tx_tail ?_ ho hex hd g1 pk nd1 hb1 q2 q3 hled ?_
      · intro b s₁ Q' q; cases b <;> first | exact wpAny_pure q | exact wpAny_rule q
      · intro h' sb r; dsimp only; exact wpAny_pure (hQ h' _ sb r)
/-- the texts one by one -/
def uniq (l : List Str) : List Str := l.foldl addS []
theorem addS_len (l : List Str) (x : Str) : (addS l x).length ≤ l.length + 1 := by
  unfold addS
  split
  · omega
  · rw [List.length_append]
    exact Nat.le_refl _
theorem fold_len : ∀ (m l : List Str), (m.foldl addS l).length ≤ l.length + m.length
  | [], l => Nat.le_refl _
  | x :: m, l => by
    have h1 := fold_len m (addS l x)
    have h2 := addS_len l x
    rw [List.foldl_cons, List.length_cons]
    omega
theorem tx_loop {R : Result → Shared → Prop} {I : Addr} {fp wr : List Addr} {G : Array GenState → Array GenState → Prop} {xs : List Str} {Pv : Nat → Value → Prop} {St : Nat → Shared → Prop} (W : WalksS P w A.in1 I fp wr G xs.length Pv St) (S : Addr) (hSf : S ∉ fp)
    (hval : ∀ i v, Pv i v → ∃ x t, xs[i]? = some x ∧ v = .str x t) (hb : xs.length + 1 < scanBound) :
    ∀ (k i : Nat) (s : Shared), xs.length - i = k → i ≤ xs.length → St i s → TxSet w s.heap S (uniq (xs.take i)) →
      (∀ s', Moved (S :: wr) G s s' → TxSet w s'.heap S (uniq xs) → R (.ok (.ret .none)) s') → codeAny (model P w) A (.builtin "set.update.loop" ⟨[.ref S, .ref I], []⟩) R s := by
  have nw : S ∉ wr := fun h => hSf (W.sub _ h)
  have up : ∀ b ∈ wr, b ∈ S :: wr := fun b hb => List.mem_cons_of_mem _ hb
  intro k
  induction k with
  | zero =>
    intro i s hk hi hst hS hR
    obtain rfl : i = xs.length := by omega
    rw [List.take_length] at hS
    refine codeAny_builtin F.entry_set_update_loop ?_
    rw [Around.under_plainId F.plain_set_update_loop _]
    show wpAny _ A.in1 (pyNext (.ref I) >>= _) _ _ s
    refine wpAny_bind (W.done s _ _ hst fun t hm => ?_)
    exact wpAny_pure (hR t (hm.mono up) (hS.at fun o e => hm.heap S _ nw e))
  | succ k ih =>
    intro i s hk hi hst hS hR
    have hlt : i < xs.length := by omega
    refine codeAny_builtin F.entry_set_update_loop ?_
    rw [Around.under_plainId F.plain_set_update_loop _]
    show wpAny _ A.in1 (pyNext (.ref I) >>= _) _ _ s
    refine wpAny_bind (W.item i s _ _ hlt hst fun v t hP hst' hm => ?_)
    obtain ⟨x, tk, hx, rfl⟩ := hval i v hP
    have hS' : TxSet w t.heap S (uniq (xs.take i)) := hS.at fun o e => hm.heap S _ nw e
    show wpAny _ A.in1 (holding [Value.str x tk] (setAdd S (.str x tk)) >>= _) _ _ t
    refine wpAny_bind (wpAny_holding ?_)
    unfold setAdd
    refine wpAny_holding (wpAny_bind ((SK P w).pyHash (k := x) (tx_is x tk) ?_))
    have room : (uniq (xs.take i)).length + 1 < scanBound := by
      have h1 := fold_len (xs.take i) []
      rw [List.length_take] at h1
      unfold uniq
      have : ([] : List Str).length = 0 := rfl
      omega
    refine tx_add (s := { t with toks := t.toks + 1 }) hS' room fun h' b hsb hS2 => ?_
    have hSi : TxSet w h' S (uniq (xs.take (i + 1))) := by
      unfold uniq at hS2 ⊢
      rw [List.take_add_one, hx, List.foldl_append]
      exact hS2
    refine wpAny_pure ⟨plainId_quiet F.plain_set_update_loop _, ih (i + 1) _ (by omega) hlt (W.frame _ t _ _ hst' (Nat.le_succ _) fun b hb o e => ?_) hSi fun u hm2 hS3 => ?_⟩
    · rw [hsb.2 b (fun h : b = S => hSf (by rw [← h]; exact hb))]
      exact e
    · refine hR u (Moved.trans W.gtrans ((hm.mono up).then_heap (Nat.le_succ _) fun b o hb e => ?_) hm2) hS3
      rw [hsb.2 b (fun h : b = S => hb (by rw [h]; exact List.mem_cons_self))]
      exact e
theorem tx_new1 (x : Value) {Q₁ : Value → Shared → Prop}
    (h : Q₁ (.ref s.heap.objs.size) { s with heap := s.heap.push { cls := .type "set", dict := none, data := .set #[] 0 (.fresh 0 0 (!w.params.followText "set-order")) } }) :
    codeAny (model P w) A (.call (.builtin "set.__new__") ⟨[.type "set", x], []⟩) (wants Q₁ E) s := by
  refine codeAny_of_tree ?_
  show wpAny _ A.in1 (do checkBuiltinCall "set.__new__" ⟨[.type "set", x], []⟩; again (.builtin "set.__new__" ⟨[.type "set", x], []⟩)) _ _ s
  refine wpAny_bind (wpAny_of_eq (F.newCall_set_1 x) (wpAny_pure ⟨plainId_quiet F.plain_set_new _, codeAny_builtin F.entry_set_new ?_⟩))
  rw [Around.under_plainId F.plain_set_new _]
  unfold Builtin.«set.__new__» Builtin.Frozenset.newClass
  have hsub := sub_set_self
  obtain ⟨hp, g, d, tk, os⟩ := s
  dsimp only
  wp_walk
  refine wpAny_askSetting (wpAny_pure ?_)
  dsimp only
  simp only [newObj]
  exact wpAny_bind (wpAny_alloc (wpAny_pure (wpAny_pure h)))
abbrev freshSet (w : World) : Obj := { cls := .type "set", dict := none, data := .set #[] 0 (.fresh 0 0 (!w.params.followText "set-order")) }
theorem tx_fresh {h : Heap} (ha : h.get? a = some (freshSet w)) : TxSet w h a [] :=
  ⟨_, #[], 0, _, ha, ⟨rfl, rfl, rfl⟩, rfl, (fun e he => by simp at he), (by simp), (by simp), (by decide), (by rfl), List.Pairwise.nil, by
    show _ ∨ (!w.params.followText "set-order") = true
    cases w.params.followText "set-order"
    · exact .inr rfl
    · exact .inl rfl⟩
theorem tx_setList {l : Addr} {items : Array Value} {xs : List Str} {Q : Value → Shared → Prop} (hh : A.handled = none) (hl : s.heap.IsList l items) (hn : items.size = xs.length) (hi : ∀ (i : Nat) (v : Value), items[i]? = some v → ∃ x t, xs[i]? = some x ∧ v = .str x t) (hb : xs.length + 1 < scanBound)
    (h : ∀ (h' : Heap) (tk : Nat), TxSet w h' s.heap.objs.size (uniq xs) → (∀ b o, b < s.heap.objs.size → s.heap.get? b = some o → h'.get? b = some o) → Q (.ref s.heap.objs.size) { s with heap := h', toks := tk }) :
    wpAny (model P w) A (call (.type "set") [.ref l]) Q E s := by
  obtain ⟨c, tl, hmro⟩ := F.called_set.mro
  have hmade := F.called_set.made
  have hsub := F.called_set.sub
  refine wpAny_call (codeAny_of_tree ?_)
  show wpAny _ _ (callAny (.type "set") _) _ _ _
  refine wpAny_pure ⟨Code.quiet_builtin _ (by decide +kernel), codeAny_builtin F.entry_type_call ?_⟩
  rw [Around.under_plain (weight_type_call_type "set" [.ref l] []) rfl]
  have h1 := F.called_set.notType
  have h2 := F.called_set.canCreate
  have hct := F.typeCall_set_1 (.ref l)
  repeat (any_goals (first | assumption | wp_step))
  refine codeAny_mono (tx_new1 (.ref l) (E := E) (Q₁ := fun obj s₁ => obj = .ref s.heap.objs.size ∧ s₁ = { s with heap := s.heap.push (freshSet w) }) ⟨rfl, rfl⟩) fun r s₁ hr => ?_
  cases r with
  | error e => exact hr
  | ok fl =>
    cases fl with
    | ret obj =>
      obtain ⟨rfl, rfl⟩ := hr
      have hS : (s.heap.push (freshSet w)).get? s.heap.objs.size = some (freshSet w) := Heap.get?_push_size _ rfl
      have hT : Shared.TypeIs { s with heap := s.heap.push (freshSet w) } (.ref s.heap.objs.size) "set" := ⟨_, hS, rfl⟩
      have hli := F.called_set.init.lookup
      have hbi := F.called_set.init.bind (.ref s.heap.objs.size)
      repeat (any_goals (first | assumption | wp_step))
      refine codeAny_mono (codeAny_call_builtin (R := wants (fun r s₂ => r = .none ∧ ∃ h' tk, s₂ = { s with heap := h', toks := tk } ∧ TxSet w h' s.heap.objs.size (uniq xs) ∧
          (∀ b o, b < s.heap.objs.size → s.heap.get? b = some o → h'.get? b = some o)) E) F.called_set.init.plain F.entry_set_init (check_set_init_1 hT ?_)) fun r₂ s₂ hr₂ => ?_
      · obtain ⟨ol, hol, hcl, nl, hdl⟩ := hl
        obtain ⟨ocls, odict, odata, oslots⟩ := ol
        simp only at hcl hdl
        subst hcl; subst hdl
        have hol' : (s.heap.push (freshSet w)).get? l = some { cls := .type "list", dict := odict, data := .seq items nl, slots := oslots } := Heap.get?_push_of_some _ hol
        have hsls := F.sub_list_set
        have hslf := F.sub_list_frozenset
        have hne : (Value.type "list" == Value.type "dict") = false := by decide
        have hl1 : (s.heap.push (freshSet w)).IsList l items := ⟨_, hol', rfl, nl, rfl⟩
        unfold Builtin.«set.__init__» noKeywords Builtin.Frozenset.updateFrom
        generalize hPI : pyIter = PI
        wp_walk
        subst hPI
        refine wpAny_pyIter_list hl1 (wpAny_bind (wpAny_runValue ?_))
        have hlS : l < s.heap.objs.size := Heap.lt_size hol
        have hh3 : A.in1.in1.in1.handled = none := by simp [hh]
        have hneI : l ≠ (s.heap.push (freshSet w)).objs.size := by rw [Heap.size_push]; exact Nat.ne_of_lt (Nat.lt_succ_of_lt hlS)
        have hSf : s.heap.objs.size ∉ [(s.heap.push (freshSet w)).objs.size, l] := by
          rw [Heap.size_push]
          simp only [List.mem_cons, List.mem_singleton, List.not_mem_nil, or_false, not_or]
          exact ⟨Nat.ne_of_lt (Nat.lt_succ_self _), Nat.ne_of_gt hlS⟩
        have WS := (Walks.list (prog := P) (w := w) hh3 _ l hneI items).toS
        rw [hn] at WS
        refine tx_loop WS s.heap.objs.size hSf hi hb xs.length 0 _ (by omega) (Nat.zero_le _) ⟨⟨_, Heap.get?_push_size _ rfl, rfl, rfl⟩, (hl1.push _)⟩ ?hS0 ?hR
        case hS0 =>
          rw [List.take_zero]
          exact tx_fresh (Heap.get?_push_of_some _ hS)
        case hR =>
          intro s' hm hS'
          obtain ⟨h', g', d', tk', os'⟩ := s'
          have eg : g' = s.gens := hm.gens
          have ed : d' = s.drawn := hm.drawn
          have eo : os' = s.os := hm.os
          subst eg; subst ed; subst eo
          show wpAny _ _ _ _ _ _
          refine wpAny_pure ?_
          show wpAny _ _ (ret Value.none) _ _ _
          refine wpAny_pure ⟨rfl, h', tk', rfl, hS', fun b o hb e => hm.heap b o ?_ (Heap.get?_push_of_some _ (Heap.get?_push_of_some _ e))⟩
          simp only [List.mem_cons, List.mem_singleton, List.not_mem_nil, or_false, not_or]
          exact ⟨Nat.ne_of_lt hb, by rw [Heap.size_push]; exact Nat.ne_of_lt (Nat.lt_succ_of_lt hb)⟩
      · cases r₂ with
        | error e => exact hr₂
        | ok fl₂ =>
          cases fl₂ with
          | ret r =>
            obtain ⟨rfl, h', tk, rfl, hS', hk'⟩ := hr₂
            repeat (any_goals (first | assumption | wp_step))
            exact h _ _ hS' hk'
          | _ => exact hr₂.elim
    | _ => exact hr.elim
theorem tx_strs : ∀ {vs : List Value} {m : List (Int × Value)}, (∀ e ∈ m, TxE w e) → vs.Perm (m.map (·.2)) → ∃ ks : List Str, StrsAre vs ks ∧ ks.Perm (m.map kTx) := by
  intro vs m g pm
  have all : ∀ v ∈ vs, ∃ x t, v = Value.str x t := fun v hv => by
    obtain ⟨e, he, q⟩ := List.mem_map.mp (pm.mem_iff.mp hv)
    obtain ⟨x, tk, h1, _⟩ := g e he
    exact ⟨x, tk, by rw [← q]; exact h1⟩
  refine ⟨vs.map fun v => kTx (0, v), ?_, ?_⟩
  · clear pm
    induction vs with
    | nil => exact .nil
    | cons v vs ih =>
      obtain ⟨x, t, rfl⟩ := all v List.mem_cons_self
      exact .cons x t (ih fun u hu => all u (List.mem_cons_of_mem _ hu))
  · have q := pm.map fun v => kTx (0, v)
    rw [List.map_map] at q
    exact q
theorem tx_sorted {l : List Str} {Q : Value → Shared → Prop} (R : TxSet w s.heap a l) (hh : A.handled = none) (h64 : l.length < 64)
    (hQ : ∀ s' p (out : Array Value) (c : Nat) (ys : List Str), (∀ b o, s.heap.get? b = some o → s'.heap.get? b = some o) → s'.gens = s.gens → s'.os = s.os → s.heap.objs.size ≤ p → s'.heap.get? p = some (seqObj "list" out c) → StrsAre out.toList ys → ys.Perm l → sortedS ys = true → Q (.ref p) s') :
    wpAny (model P w) A (call (.builtin "sorted") [.ref a]) Q E s := by
  obtain ⟨o, es, ep, t, ho, hex, hd, g, pm0, nd, hb, hf, hr, hl⟩ := R
  refine Calls.call_function_entry kind_sorted plain_sorted entry_sorted (args_sorted1 _) ?_
  unfold Builtin.«sorted»
  refine wpAny_bind (m := checkCount "sorted" 1 1 _) (wpAny_pure (wpAny_bind (L2.collect_set (A := A.in1) hh ⟨o, ho, hex.1, hd⟩ hf hb hr hl fun s1 vs k1 hz g1 o1 pm => ?_)))
  obtain ⟨ks, hS, pk⟩ := tx_strs g pm
  have pl : ks.Perm l := pk.trans pm0
  have hvl : vs.length = l.length := by
    rw [pm.length_eq, List.length_map, ← pm0.length_eq, List.length_map]
  refine wpAny_bind (wpAny_newList ?_ (by rw [hvl, sizeLine_eq]; omega))
  have hoL : (s1.heap.push (seqObj "list" vs.toArray 0)).get? s1.heap.objs.size = some (seqObj "list" vs.toArray 0) := Heap.get?_push_size _ rfl
  refine wpAny_bind (wpAny_holding (wpAny_call_entry slot_list_sort ⟨_, hoL, rfl⟩ entry_list_sort
    (list_sort_treeK strKind_oneLt hoL hS.keysOf (fun v₁ v₂ rest e => keyKind_strs (by rw [← e]; exact hS)) (by rw [hvl]; exact h64) fun st' hp hs => ⟨_, rfl, ?_⟩) (args_list_sort _)))
  obtain ⟨ys, y1, y2, y3⟩ := sorted_out_str hS hp hs
  obtain ⟨c, hc⟩ := sortedHeap_at (vs := vs) (out := (arrOf st').map (·.2)) hoL
  refine wpAny_pure ⟨_, rfl, hQ _ s1.heap.objs.size _ c ys (fun b u e => ?_) g1 o1 hz hc y1 (y2.trans pl) y3⟩
  have q := k1 b u e
  have hlt := Heap.lt_size q
  show (sortedHeap (s1.heap.push (seqObj "list" vs.toArray 0)) s1.heap.objs.size vs _).get? b = some u
  rw [sortedHeap_old (Nat.ne_of_lt hlt) (by rw [size_push']; exact Nat.lt_succ_of_lt hlt)]
  exact Heap.get?_push_of_some _ q
end
/-! in the layer -/
def TxO (w : World) (a : Addr) (l : List Str) : HO := .ext fun h => TxSet w h a l
section
variable {X : Cx} {M : List Addr} {σ : L2.St} {H H' : Hp} {e : Expr} {pos p p2 pos2 : Pos}
theorem txO_new {P : Program} {w : World} {H : Hp} {h : Heap} {a : Addr} {l : List Str} (R : TxSet w h a l) : ObjOk P w H h a (TxO w a l) := by
  have ⟨o, _, _, _, ho, _⟩ := R
  exact ⟨R, ⟨o, ho⟩, fun h1 h2 q k => q.at k⟩
theorem cr_setL (hc : X.calm = true) : CallR X (.type "set") (fun xs H Q => ∃ (q : Addr) (ys : List Str), xs = [.ref q] ∧ SqL X.K H q (ys.map V.str) ∧ ys.length < 4000 ∧ ∀ p, H p = none → Q (.ref p) (upd H p (TxO X.w p (uniq ys)))) := by
  intro pins s σ H xs us Q I r h
  obtain ⟨q, ys, rfl, hq, hl, k⟩ := h
  obtain ⟨its, rv, pl, _⟩ := I.list hq
  rw [Vals.ref1 r]
  have hz := rv.length
  rw [List.length_map] at hz
  refine tx_setList (I.ok.hd hc) pl.isList (by simpa using hz.symm) (fun i v hv => ?_) (by unfold scanBound; omega) fun h' tk hS hk => ?_
  · have hv' : its[i]? = some v := by simpa using hv
    obtain ⟨y, hy, ry⟩ : ∃ y, (ys.map V.str)[i]? = some y ∧ RelV y v := by
      have hi : i < ys.length := by
        have := (List.getElem?_eq_some_iff.mp hv').1
        omega
      have hy : (ys.map V.str)[i]? = some (V.str ys[i]) := by rw [List.getElem?_map, List.getElem?_eq_getElem hi]; rfl
      obtain ⟨u, hu, ru⟩ := rv.get hy
      rw [hv'] at hu
      cases hu
      exact ⟨_, hy, ru⟩
    rw [List.getElem?_map] at hy
    cases e : ys[i]? with
    | none => rw [e] at hy; cases hy
    | some x =>
      rw [e] at hy
      have ey : V.str x = y := Option.some.inj hy
      subst ey
      obtain ⟨t, rfl⟩ := ry
      exact ⟨x, t, rfl, rfl⟩
  · have kk : ∀ b o, s.heap.get? b = some o → h'.get? b = some o := fun b o e => hk b o (Heap.lt_size e) e
    exact ⟨.ref _, _, I.laid (t' := tk) kk (Nat.le_refl _) (txO_new hS), rfl, k _ (I.hok.fresh (Nat.le_refl _))⟩
theorem cr_sortedTx (hc : X.calm = true) : CallR X (.builtin "sorted") (fun xs H Q => ∃ (q : Addr) (l : List Str), xs = [.ref q] ∧ H q = some (TxO X.w q l) ∧ l.length < 64 ∧ ∀ (ys : List Str) (p : Addr), ys.Perm l → sortedS ys = true → H p = none → Q (.ref p) (upd H p (.lst (ys.map V.str)))) := by
  intro pins s σ H xs us Q I r h
  obtain ⟨q, l, rfl, hq, h64, k⟩ := h
  have R : TxSet X.w s.heap q l := (I.hok q _ hq).1
  rw [Vals.ref1 r]
  refine tx_sorted R (I.ok.hd hc) h64 fun t p out c ys kp hg ho hp ha hs pm so => ?_
  have hlen : (ys.map V.str).length ≤ sizeLine := by rw [List.length_map, pm.length_eq, sizeLine_eq]; omega
  have hn : H p = none := I.hok.fresh hp
  have J : Inv X pins σ (upd H p (.lst (ys.map V.str))) { s with heap := t.heap, gens := t.gens, drawn := t.drawn, toks := t.toks } :=
    I.call (ch := []) (Un.laid kp hp hn) (I.hok.laid kp hp ⟨hlen, out.toList, c, vals_of_strs hs, ha⟩) (by rw [hg]; exact I.bare) (fun _ z => nomatch z)
  have et : t = { s with heap := t.heap, gens := t.gens, drawn := t.drawn, toks := t.toks } := by
    cases t
    cases s
    cases ho
    rfl
  rw [et]
  exact ⟨.ref p, _, J, rfl, k ys p pm so hn⟩
/-- sorted(set(xs)) -/
theorem ve_sortedSet {xs : List Str} (hm : X.mg "sorted" = none) (hm2 : X.mg "set" = none) (hc : X.calm = true) (h : VE X M σ H e xs) (h64 : xs.length < 64) (hg : Gl X "sorted" := by rfl) (hg2 : Gl X "set" := by rfl) (he : starEach [e] X.env = (false, eval e X.env) :: starEach [] X.env := by rfl) (hpl : (backTo pos2 (starEach [] X.env)).any (·.1) = false := by rfl)
    (he' : starEach [Expr.Call (.Name "set" p2) [e] [] pos2] X.env = (false, eval (.Call (.Name "set" p2) [e] [] pos2) X.env) :: starEach [] X.env := by rfl) (hpl' : (backTo pos (starEach [] X.env)).any (·.1) = false := by rfl) : VE X M σ H (.Call (.Name "sorted" p) [.Call (.Name "set" p2) [e] [] pos2] [] pos) (srt (uniq xs)) :=
  ve_rule (pe_callB (cr_sortedTx hc) hg hm (by decide +kernel) (pa_cons (pe_callTy (cr_setL hc) hg2 hm2 (by decide +kernel) (pa_cons pw pa_nil he) (by decide) (by decide) he hpl) pa_nil he') (by decide) (by decide) he' hpl') fun H1 e1 d Q q => h H1 e1 d _ fun v H2 e2 dv => by
    obtain ⟨l, vs, rfl, hl, hd⟩ := dv
    rw [show vs = xs.map V.str from hd.eqMap] at hl
    have hu : (uniq xs).length ≤ xs.length := by
      have := fold_len xs []
      unfold uniq
      simpa using this
    refine ⟨l, xs, rfl, ex_hideL hl, by omega, fun r hr => ⟨r, uniq xs, rfl, upd_same, by omega, fun ys r2 hp hs hr2 => ?_⟩⟩
    rw [srt_one hp hs]
    have e3 : Ex H2 (upd H2 r (TxO X.w r (uniq xs))) := Ex.new hr
    exact q _ _ (Ex.tr e2 (Ex.tr e3 (Ex.new hr2))) ⟨r2, _, rfl, sq_new (d.ex (Ex.tr e2 e3)) hr2, All2.ofMap fun _ _ => rfl⟩
end
end Tm
set_option maxHeartbeats 2000000
namespace Tm
open PySem PySem.Spec PyProof.Rows L2
open Enc (den)
/-! ### dicts that stand for sets: {k: True, ..} -/
structure KSet where
  ks : List Str
abbrev tru (l : List Str) : List (Key × V) := l.map fun k => (Sum.inr k, V.bl true)
instance : EncN KSet where
  den _ H v s := ∃ p o, v = .ref p ∧ H p = some (.frz o (.dK (tru s.ks)))
  mono e h := by
    obtain ⟨p, o, h1, h2⟩ := h
    exact ⟨p, o, h1, e p _ h2⟩
  nn h := by
    obtain ⟨p, o, h1, _⟩ := h
    rw [h1]
    intro z
    cases z
theorem tru_val (l : List Str) (k : Str) : valV (tru l) (Sum.inr k : Key) = if k ∈ l then some (V.bl true) else none := by
  induction l with
  | nil => rfl
  | cons x l ih =>
    by_cases h : x = k
    · subst h
      rw [if_pos List.mem_cons_self]
      exact valV_pos rfl
    · have e : valV (tru (x :: l)) (Sum.inr k : Key) = valV (tru l) (Sum.inr k : Key) := valV_neg fun z => h (Sum.inr.inj z)
      rw [e, ih]
      by_cases hm : k ∈ l
      · rw [if_pos hm, if_pos (List.mem_cons_of_mem _ hm)]
      · rw [if_neg hm, if_neg fun z => (List.mem_cons.mp z).elim (fun y => h y.symm) hm]
theorem tru_put (l : List Str) (k : Str) : putK (tru l) (Sum.inr k : Key) (V.bl true) = tru (addS l k) := by
  unfold putK addS
  rw [valV_any, tru_val]
  by_cases hm : k ∈ l
  · rw [if_pos hm, if_pos hm, if_pos (show (some (V.bl true)).isSome = true from rfl)]
    unfold tru
    rw [List.map_map]
    refine List.map_congr_left fun x _ => ?_
    show (if (Sum.inr x : Key) = Sum.inr k then ((Sum.inr x : Key), V.bl true) else ((Sum.inr x : Key), V.bl true)) = _
    split <;> rfl
  · rw [if_neg hm, if_neg hm, if_neg (show ¬ (none : Option V).isSome = true from fun z => nomatch z)]
    unfold tru
    rw [List.map_append]
    rfl
theorem tru_len (l : List Str) : (tru l).length = l.length := List.length_map ..
theorem tru_keys (l : List Str) : (tru l).map (·.1) = l.map Sum.inr := by
  unfold tru
  rw [List.map_map]
  rfl
theorem addSl : ∀ (l acc : List Str), (l.foldl addS acc).length ≤ acc.length + l.length
  | [], acc => Nat.le_refl _
  | x :: l, acc => by
    have h1 := addSl l (addS acc x)
    have h2 : (addS acc x).length ≤ acc.length + 1 := by
      unfold addS
      split
      · omega
      · rw [List.length_append]
        exact Nat.le_refl _
    rw [List.foldl_cons, List.length_cons]
    omega
section
variable {X : Cx} {M : List Addr} {σ : L2.St} {H H' : Hp} {e a b : Expr} {pos p : Pos} {α : Type} [Enc α]
theorem vi_kset {t : KSet} {tg : Expr} (h : VE X M σ H e t) : VI X M σ H tg e t.ks := fun H1 e1 d R q => wi_of (pi_keys pw) (h H1 e1 d _ fun v H2 e2 dv => by
  obtain ⟨l, od, rfl, hl⟩ := dv
  obtain ⟨lM, hl'⟩ := hide_some hl
  refine ⟨l, od, rfl, .inl ⟨_, hl', q (Itk l od (tru t.ks)) H2 _ _ e2 (by rw [← tru_len]; exact walk_keys) (fun H3 b => b l _ lM hl') fun i Ha v Hb _ b y => ?_⟩⟩
  obtain ⟨rfl, k, w, hk, rfl⟩ := y
  unfold tru at hk
  rw [List.getElem?_map] at hk
  cases ex : t.ks[i]? with
  | none => rw [ex] at hk; cases hk
  | some x =>
    rw [ex] at hk
    have ek : ((Sum.inr x : Key), V.bl true) = (k, w) := Option.some.inj hk
    have e1 : k = Sum.inr x := (congrArg Prod.fst ek).symm
    refine ⟨Ex.rfl', x, rfl, fun _ _ _ => ?_⟩
    rw [e1]
    rfl)
theorem vc_inK {x : Str} {t : KSet} (hu : X.A.units + 1 < cLine) (ha : VE X M σ H a x) (hb : VE X M σ H b t) : VC X M σ H .In a b (decide (x ∈ t.ks)) := vc_rule (pc_din hu pw pw) fun H1 e1 d Q q => two ha hb e1 d fun v u H2 e2 _ dv du => by
  obtain ⟨l, od, rfl, hl⟩ := du
  refine ⟨l, valV (tru t.ks) (Sum.inr x : Key), rfl, .inl ⟨_, Sum.inr x, .inr ⟨od, (hide_some hl).2⟩, dv, rfl⟩, ?_⟩
  have q' := q H2 e2
  rw [tru_val]
  by_cases hm : x ∈ t.ks
  · rw [if_pos hm]
    rw [decide_eq_true hm] at q'
    exact q'
  · rw [if_neg hm]
    rw [decide_eq_false hm] at q'
    exact q'
theorem vc_notInK {x : Str} {t : KSet} (hu : X.A.units + 1 < cLine) (ha : VE X M σ H a x) (hb : VE X M σ H b t) : VC X M σ H .NotIn a b (!decide (x ∈ t.ks)) := vc_rule (pc_dnotin hu pw pw) fun H1 e1 d Q q => two ha hb e1 d fun v u H2 e2 _ dv du => by
  obtain ⟨l, od, rfl, hl⟩ := du
  refine ⟨l, valV (tru t.ks) (Sum.inr x : Key), rfl, .inl ⟨_, Sum.inr x, .inr ⟨od, (hide_some hl).2⟩, dv, rfl⟩, ?_⟩
  have q' := q H2 e2
  rw [tru_val]
  by_cases hm : x ∈ t.ks
  · rw [if_pos hm]
    rw [decide_eq_true hm] at q'
    exact q'
  · rw [if_neg hm]
    rw [decide_eq_false hm] at q'
    exact q'
theorem ve_sortedK {t : KSet} (hm : X.mg "sorted" = none) (hc : X.calm = true) (h : VE X M σ H e t) (h64 : t.ks.length < 64) (hg : Gl X "sorted" := by rfl) (he : starEach [e] X.env = (false, eval e X.env) :: starEach [] X.env := by rfl) (hpl : (backTo pos (starEach [] X.env)).any (·.1) = false := by rfl) : VE X M σ H (.Call (.Name "sorted" p) [e] [] pos) (srt t.ks) :=
  ve_rule (pe_callB (call_sortedD hc) hg hm (by decide +kernel) (pa_cons pw pa_nil he) (by decide) (by decide) he hpl) fun H1 e1 d Q q => h H1 e1 d _ fun v H2 e2 dv => by
    obtain ⟨l, od, rfl, hl⟩ := dv
    refine ⟨l, _, t.ks, rfl, .inr ⟨od, (hide_some hl).2⟩, tru_keys _, h64, fun ys r hp hs hr => ?_⟩
    rw [srt_one hp hs]
    exact q _ _ (Ex.tr e2 (Ex.new hr)) ⟨r, _, rfl, sq_new (d.ex e2) hr, All2.ofMap fun _ _ => rfl⟩
def tAllI (X : Cx) (sc : Scope) (tg iter : Expr) : TI := fun σ H R => ∀ s H0 C cl fp, WI (Blk X sc s H0 C cl fp) tg iter σ H R
theorem pallI {sc : Scope} {tg iter : Expr} {s : Shared} {H : Hp} {C : Addr} {cl : List (Str × Addr)} {fp : List Addr} : PI (Blk X sc s H C cl fp) tg iter (tAllI X sc tg iter) := ⟨fun _ _ _ _ _ I h => h _ _ _ _ _ _ _ I⟩
/-- the texts that all of them give, each once -/
def unionK (xs : List α) (f : α → List Str) : List Str := (xs.flatMap f).foldl addS []
/-- {b: True for a in xs for b in f a}: a new dict -/
theorem dc2_rd {xs : List α} {f : α → List Str} {ia ib : Expr} {sc : Scope} {na nb : Str} {ja jb : Nat} {pa pb : Pos} {Q : VK} (d : Dom M H) (src : VI X M σ H (.Name na pa) ia xs) (hz : (xs.flatMap f).length < 90000)
    (inn : ∀ q s H0 C cl fp H1 v x, H q = none → Ex H H1 → Dom (q :: M) H1 → Ex (hide M H) (hide (q :: M) H1) → x ∈ xs → den X.K (hide (q :: M) H1) v x → VI (Blk X sc s H0 C cl fp) (q :: M) ((wipe σ [ja, jb]).set ja (some v)) H1 (.Name nb pb) ib (f x))
    (k : ∀ q H1, H q = none → Ex H H1 → Dom M H1 → H1 q = some (.dK (tru (unionK xs f))) → Q (.ref q) H1)
        (hwa : ∀ v, wipe ((wipe σ [ja, jb]).set ja (some v)) [ja, jb] = wipe σ [ja, jb])
    (hwb : ∀ v u, wipe ((wipe ((wipe σ [ja, jb]).set ja (some v)) [jb]).set jb (some u)) [jb] = wipe ((wipe σ [ja, jb]).set ja (some v)) [jb])
    (hwi : ∀ v, wipe ((wipe σ [ja, jb]).set ja (some v)) [jb] = (wipe σ [ja, jb]).set ja (some v))
    (hjl : jb < σ.length) :
    tDc2 (WI X (.Name na pa) ia) (gName ja) (tAllI X sc (.Name nb pb) ib) (gName jb) (tVar jb) (tC (.bl true)) [ja, jb] [jb] σ H Q := by
  refine src H Ex.rfl' d _ fun J H2 G Y e2 W hG hY D hD => ?_
  have hHD : H D = none := Ex.back e2 hD
  have d2 := d.ex e2
  -- the dict holds the texts l; all else has grown alone
  let P : List Str → Hp → Prop := fun l Hc => Hc D = some (.dK (tru (l.foldl addS []))) ∧ Ex H2 Hc ∧ Dom (D :: M) Hc
  have hlen : ∀ i, ((xs.take i).flatMap f).length ≤ (xs.flatMap f).length := fun i => by
    have e : xs.flatMap f = (xs.take i).flatMap f ++ (xs.drop i).flatMap f := by rw [← List.flatMap_append, List.take_append_drop]
    rw [e, List.length_append]
    omega
  refine ⟨fun i m Hc => m = xs.length - i ∧ i ≤ xs.length ∧ P ((xs.take i).flatMap f) Hc, ⟨xs.length, by simp, Nat.zero_le _, ?_⟩, ?_⟩
  · rw [List.take_zero]
    exact ⟨upd_same, Ex.new hD, (d2.upd).cons upd_same⟩
  rintro i m Hc ⟨rfl, hi, h1, h2, h3⟩
  have hGc := hG Hc (Bt.ex h2)
  by_cases hlt : i < xs.length
  · refine .inr ⟨W.goes i Hc hlt hGc, P ((xs.take (i + 1)).flatMap f), fun H' p' => ⟨xs.length - (i + 1), by omega, rfl, hlt, p'⟩, fun v Hb y => ?_⟩
    obtain ⟨eab, x, hx, dx⟩ := hY i Hc v Hb hlt (Bt.ex h2) (W.yields i Hc v Hb hlt hGc y)
    have d4 := h3.ex eab
    have e2b : Ex H2 Hb := Ex.tr h2 eab
    have eHb : Ex H Hb := Ex.tr e2 e2b
    have dx' : den X.K (hide (D :: M) Hb) v x := dx (D :: M) (hide_under hD h2) h3
    refine ⟨hwa v, fun s H0 C cl fp => inn D s H0 C cl fp Hb v x hHD eHb d4 (hide_under hHD eHb) (List.mem_of_getElem? hx) dx' Hb Ex.rfl' d4 _ fun J1 H4 G1 Y1 e4 W1 hG1 hY1 => ?_⟩
    have et : (xs.take (i + 1)).flatMap f = (xs.take i).flatMap f ++ f x := by
      rw [List.take_add_one, hx, List.flatMap_append]
      show _ ++ [x].flatMap f = _
      rw [List.flatMap_singleton]
    have hl2 := hlen (i + 1)
    rw [et, List.length_append] at hl2
    refine ⟨fun j k Hd => k = (f x).length - j ∧ j ≤ (f x).length ∧ P ((xs.take i).flatMap f ++ (f x).take j) Hd ∧ Bt (D :: M) H4 Hd, ⟨(f x).length, by simp, Nat.zero_le _, ⟨?_, Ex.tr e2b e4, d4.ex e4⟩, Bt.ex Ex.rfl'⟩, ?_⟩
    · rw [List.take_zero, List.append_nil]
      exact e4 D _ (eab D _ h1)
    rintro j k Hd ⟨rfl, hj, ⟨g1, g2, g3⟩, g4⟩
    have hGd := hG1 Hd g4
    by_cases hlj : j < (f x).length
    · refine .inr ⟨W1.goes j Hd hlj hGd, fun H' => P ((xs.take i).flatMap f ++ (f x).take (j + 1)) H' ∧ Bt (D :: M) H4 H', fun H' p' => ⟨(f x).length - (j + 1), by omega, rfl, hlj, p'.1, p'.2⟩, fun u He y1 => ?_⟩
      obtain ⟨ede, z, hz', dz⟩ := hY1 j Hd u He hlj g4 (W1.yields j Hd u He hlj hGd y1)
      have du : u = .str z := dz (D :: M) (g4.hide fun _ z => z) g3
      refine ⟨hwb v u, u, ?_, _, Sum.inr z, by rw [du]; rfl, ede D _ g1, szl ?_, ⟨?_, fun a o ha => ?_, (g3.ex ede).upd⟩, (g4.tr (Bt.ex ede)).up List.mem_cons_self⟩
      · rw [List.getElem?_set_self (by rw [wipe_length, List.length_set, wipe_length]; exact hjl)]
      · rw [tru_len]
        have := addSl ((xs.take i).flatMap f ++ (f x).take j) []
        rw [List.length_append, List.length_take, List.length_nil] at this
        omega
      · rw [upd_same, tru_put]
        have ez : (xs.take i).flatMap f ++ (f x).take (j + 1) = ((xs.take i).flatMap f ++ (f x).take j) ++ [z] := by
          rw [List.take_add_one, hz', ← List.append_assoc]
          rfl
        rw [ez, List.foldl_append (l := (xs.take i).flatMap f ++ (f x).take j) (l' := [z])]
        rfl
      · rw [upd_ne (ne_of_none ha hD)]
        exact ede a o (g2 a o ha)
    · have e : j = (f x).length := by omega
      subst e
      refine .inl ⟨W1.stops Hd hGd, ?_⟩
      rw [et]
      rw [List.take_length] at g1
      exact ⟨g1, g2, g3⟩
  · have e : i = xs.length := by omega
    subst e
    rw [List.take_length] at h1
    exact .inl ⟨W.stops Hc hGc, k D Hc hHD (Ex.tr e2 h2) (d2.ex h2) h1⟩
/-- {b: True for a in xs for b in f a}: a new dict -/
theorem we_dc2 {xs : List α} {f : α → List Str} {ia ib : Expr} {sc : Scope} {na nb : Str} {ja jb jt : Nat} {pa pb pk pt : Pos} {Q : VK} (hc : X.calm = true) (nd : X.N.Nodup) (d : Dom M H) (src : VI X M σ H (.Name na pa) ia xs) (ok : BlkOk X.N X.env.scope sc [(na, ja), (nb, jb)]) (hz : (xs.flatMap f).length < 90000)
    (inn : ∀ q s H0 C cl fp H1 v x, H q = none → Ex H H1 → Dom (q :: M) H1 → Ex (hide M H) (hide (q :: M) H1) → x ∈ xs → den X.K (hide (q :: M) H1) v x → VI (Blk X sc s H0 C cl fp) (q :: M) ((wipe σ [ja, jb]).set ja (some v)) H1 (.Name nb pb) ib (f x))
    (k : ∀ q H1, H q = none → Ex H H1 → Dom M H1 → H1 q = some (.dK (tru (unionK xs f))) → Q (.ref q) H1)
    (hja : X.N[ja]? = some na := by rfl) (hjb : X.N[jb]? = some nb := by rfl) (hla : (relabel sc X.env).names.lookup na = some .local := by rfl) (hlb : (relabel sc X.env).names.lookup nb = some .local := by rfl) (hne : ja ≠ jb := by decide)
    (hwa : ∀ v, wipe ((wipe σ [ja, jb]).set ja (some v)) [ja, jb] = wipe σ [ja, jb] := by intro _; rfl)
    (hwb : ∀ v u, wipe ((wipe ((wipe σ [ja, jb]).set ja (some v)) [jb]).set jb (some u)) [jb] = wipe ((wipe σ [ja, jb]).set ja (some v)) [jb] := by intro _ _; rfl)
    (hwi : ∀ v, wipe ((wipe σ [ja, jb]).set ja (some v)) [jb] = (wipe σ [ja, jb]).set ja (some v) := by intro _; rfl)
    (hjl : jb < σ.length := by exact Nat.le_of_ble_eq_true rfl)
    (hs : ∀ x, foldedSetIterable ia X.env x = pure x := by intro _; rfl) (hs1 : ∀ env x, foldedSetIterable ib env x = pure x := by intro _ _; rfl) (hdb : (nb == ("__debug__" : Str)) = false := by decide) (hcd : (nb == ("__classdict__" : Str)) = false := by decide) :
    WE X (.DictComp (.Name nb pk) (.Constant (.bool true) jt pt) [⟨.Name na pa, ia, [], 0⟩, ⟨.Name nb pb, ib, [], 0⟩] sc pos) σ H Q :=
  we_of (pe_dc2 (own := [(na, ja), (nb, jb)]) (vs1 := [jb]) (ga := gName ja) (gb := gName jb) (tk := tVar jb) (tv := tC (.bl true)) hc nd piw ok (fun i hi => by rw [List.mem_singleton.mp hi]; simp) (fun s H C cl fp => pg_name nd hja (.inl hla) (.inr hla)) (fun s H C cl fp => pallI) (fun s H C cl fp => pg_name nd hjb (.inl hlb) (.inr hlb))
    (fun s H C cl fp => pe_var hjb (.inl hlb) hdb hcd) (fun _ _ _ _ _ => pe_bl) hs hs1) (dc2_rd d src hz inn k hwa hwb hwi hjl)
/-- y = {b: True for a in xs for b in f a} -/
theorem wb_setDc2 {xs : List α} {f : α → List Str} {ia ib : Expr} {sc : Scope} {na nb : Str} {ja jb jt : Nat} {pa pb pk pt : Pos} {i : Nat} {y : Str} {py spos : Pos} {rest : List Stmt} {E : Ends} (hc : X.calm = true) (nd : X.N.Nodup) (d : Dom M H) (src : VI X M σ H (.Name na pa) ia xs) (ok : BlkOk X.N X.env.scope sc [(na, ja), (nb, jb)]) (hz : (xs.flatMap f).length < 90000)
    (inn : ∀ q s H0 C cl fp H1 v x, H q = none → Ex H H1 → Dom (q :: M) H1 → Ex (hide M H) (hide (q :: M) H1) → x ∈ xs → den X.K (hide (q :: M) H1) v x → VI (Blk X sc s H0 C cl fp) (q :: M) ((wipe σ [ja, jb]).set ja (some v)) H1 (.Name nb pb) ib (f x))
    (k : ∀ q H1, H q = none → Ex H H1 → Dom M H1 → H1 q = some (.dK (tru (unionK xs f))) → WB X rest E (σ.set i (some (.ref q))) H1)
    (hy : X.N[i]? = some y := by rfl) (hyl : X.env.scope.names.lookup y = some .local := by rfl) (hsw : swapsWith (dc2 (.Name nb pk) (.Constant (.bool true) jt pt) (.Name na pa) ia (.Name nb pb) ib sc pos) (some (.Name y py)) spos.line X.env = pure true := by exact sw_trueD rfl rfl rfl (by decide +kernel))
    (hja : X.N[ja]? = some na := by rfl) (hjb : X.N[jb]? = some nb := by rfl) (hla : (relabel sc X.env).names.lookup na = some .local := by rfl) (hlb : (relabel sc X.env).names.lookup nb = some .local := by rfl) (hne : ja ≠ jb := by decide)
    (hwa : ∀ v, wipe ((wipe σ [ja, jb]).set ja (some v)) [ja, jb] = wipe σ [ja, jb] := by intro _; rfl)
    (hwb : ∀ v u, wipe ((wipe ((wipe σ [ja, jb]).set ja (some v)) [jb]).set jb (some u)) [jb] = wipe ((wipe σ [ja, jb]).set ja (some v)) [jb] := by intro _ _; rfl)
    (hwi : ∀ v, wipe ((wipe σ [ja, jb]).set ja (some v)) [jb] = (wipe σ [ja, jb]).set ja (some v) := by intro _; rfl)
    (hjl : jb < σ.length := by exact Nat.le_of_ble_eq_true rfl)
    (hs : ∀ x, foldedSetIterable ia X.env x = pure x := by intro _; rfl) (hs1 : ∀ env x, foldedSetIterable ib env x = pure x := by intro _ _; rfl) (hdb : (nb == ("__debug__" : Str)) = false := by decide) (hcd : (nb == ("__classdict__" : Str)) = false := by decide) :
    WB X (.Assign [.Name y py] (.DictComp (.Name nb pk) (.Constant (.bool true) jt pt) [⟨.Name na pa, ia, [], 0⟩, ⟨.Name nb pb, ib, [], 0⟩] sc pos) spos :: rest) E σ H :=
  wb_cons (ws_of (ps_setDc2 (own := [(na, ja), (nb, jb)]) (vs1 := [jb]) (ga := gName ja) (gb := gName jb) (tk := tVar jb) (tv := tC (.bl true)) hc nd hy hyl hsw piw ok (fun i hi => by rw [List.mem_singleton.mp hi]; simp) (fun s H C cl fp => pg_name nd hja (.inl hla) (.inr hla)) (fun s H C cl fp => pallI) (fun s H C cl fp => pg_name nd hjb (.inl hlb) (.inr hlb))
    (fun s H C cl fp => pe_var hjb (.inl hlb) hdb hcd) (fun _ _ _ _ _ => pe_bl) hs hs1) (dc2_rd d src hz inn k hwa hwb hwi hjl))
end
end Tm
set_option maxHeartbeats 2000000
namespace Tm
open PySem PySem.Spec PyProof.Rows L2
open Enc (den)
/-! ### dicts whose keys are pairs of texts -/
section
variable {X : Cx} {pins : List (Addr × Obj)} {σ : L2.St} {H : Hp} {s : Shared} {a b : Addr} {u r : Value} {d : V} {k : List Key} {A : Around} {E : Value → Shared → Prop}
theorem d_setdT {kvs : List (List Key × V)} {Q : Value → Shared → Prop} (hu : A.units + 1 < cLine) (I : Inv X pins σ H s) (e : H a = some (.dT kvs)) (eb : H b = some (.tup (k.map kV))) (rd : RelV d r) (hl : kvs.length < sizeLine)
    (h1 : ∀ v, valV kvs k = some v → ∀ (w' : Value) (s' : Shared), Inv X pins σ H s' → RelV v w' → Q w' s') (h2 : valV kvs k = none → ∀ (s' : Shared), Inv X pins σ (upd H a (.dT (putK kvs k d))) s' → Q r s') :
    wpAny (model X.prog X.w) A (call (.builtin "dict.setdefault") [.ref a, .ref b, r]) Q E s := by
  obtain ⟨z, hd, xs, rel, dd⟩ := dt_of I.hok e
  have hz : xs.length ≤ sizeLine := by rw [← Paired.length rel]; exact z
  have hl2 : (putK kvs k d).length ≤ sizeLine := by have := length_putK kvs k d; omega
  have q := rel.val k
  refine call_setdefault_heap (hsz := hz) (knd := tupleKind (mixKind X.prog X.w)) (tupleKind_room_in1 hu) (key_of I.hok eb) hd dd (fun p hp => ?_) fun hn h' dd' hs => ?_
  · rw [hp] at q
    cases q0 : valV kvs k with
    | none => rw [q0] at q; exact (show False from q).elim
    | some v0 => rw [q0] at q; exact h1 v0 q0 _ _ (I.tok _) q
  · rw [hn] at q
    cases q0 : valV kvs k with
    | some v0 => rw [q0] at q; exact (show False from q).elim
    | none =>
      obtain ⟨o, es, ep, hq, g2, g3, g4, _, g5⟩ := dd'
      refine h2 q0 _ (d_write I (by rw [e]; exact True.intro) hs ⟨o, hq⟩ ⟨hl2, hd, _, (rel.put k eb rd).keeps fun c ys ec => ?_, o, es, ep, hq, g2, g3, g4, g5⟩)
      rw [upd_ne (ne_of ec e (fun z => nomatch z))]
      exact ec
end
/-- d.setdefault((x, y), z) -/
def tDSetdT (td ty tx : TE) : TE := fun σ H Q => td σ H fun x H1 => ∃ a, x = .ref a ∧ IsD H1 a ∧ ty σ H1 fun y H2 => tx σ H2 fun z H3 => ∃ (kvs : List (List Key × V)) (k : List Key) (b : Addr), H3 a = some (.dT kvs) ∧ y = .ref b ∧ H3 b = some (.tup (k.map kV)) ∧ kvs.length < sizeLine ∧
  (∀ v, valV kvs k = some v → Q v H3) ∧ (valV kvs k = none → Q z (upd H3 a (.dT (putK kvs k z))))
section
variable {X : Cx} {o e f : Expr} {td ty tx : TE} {apos cpos : Pos}
theorem pe_dsetdT (hu : X.A.units + 1 < cLine) (ho : PE X o td) (he : PE X e ty) (hf : PE X f tx) (m : M2 X o "setdefault" apos e f cpos) : PE X (.Call (.Attribute o "setdefault" apos) [e, f] [] cpos) (tDSetdT td ty tx) := by
  refine ⟨fun pins s σ H Q I h => ?_⟩
  refine wpAny_Call_method m.base m.few m.line PySem.F.plainAttrs_dict PySem.F.slot_dict_setdefault PySem.F.type_dict_setdefault (thn (ho.run pins s σ H _ I h) fun u s1 ⟨x, H1, I1, rx, a, ex, d, q1⟩ => ?_)
  subst ex
  obtain rfl : u = Value.ref a := rx
  obtain ⟨t1, t2, _⟩ := isD_at I1 d
  refine ⟨t1, t2, ?_⟩
  rw [m.trees]
  refine Calls.callWith_builtin rfl (Calls.evalArgs_plain (Calls.spliced_cons (thn (he.run pins s1 σ H1 _ I1 q1) fun iv s2 ⟨y, H2, I2, ry, q2⟩ =>
    Calls.spliced_cons (thn (hf.run pins s2 σ H2 _ I2 q2) fun fv s3 ⟨z, H3, I3, rz, kvs, k, b, ea, ey, eb, hl, q3, q4⟩ => Calls.spliced_nil ?_))))
  subst ey
  obtain rfl : iv = Value.ref b := ry
  exact d_setdT hu I3 ea eb rz hl (fun v hv w' s4 I4 rw' => ⟨v, _, I4, rw', q3 v hv⟩) fun hn s4 I4 => ⟨z, _, I4, rz, q4 hn⟩
end
/-- {(x, y): z} -/
def tDisp1T (tk tv : TE) : TE := fun σ H Q => ∀ p, H p = none → tk σ (upd H p (.dT [])) fun y H1 => tv σ H1 fun z H2 => ∃ (k : List Key) (b : Addr), y = .ref b ∧ H2 p = some (.dT []) ∧ H2 b = some (.tup (k.map kV)) ∧ Q (.ref p) (upd H2 p (.dT [(k, z)]))
theorem pe_disp1T {X : Cx} {pos : Pos} {ke ve : Expr} {tk tv : TE} (hu : X.A.units + 1 < cLine) (hk : PE X ke tk) (hv : PE X ve tv) : PE X (.Dict [some ke] [ve] pos) (tDisp1T tk tv) := by
  refine ⟨fun pins s σ H Q I q => ?_⟩
  have hn := I.hok.fresh (Nat.le_refl s.heap.objs.size)
  have I1 := I.laid (a := s.heap.objs.size) (o := .dT []) (h' := s.heap.push { cls := .type "dict", data := .dict #[] }) (t' := s.toks) (fun _ _ q => Heap.get?_push_of_some _ q) (Nat.le_refl _) (dt_empty s.heap I.big)
  have hlen := pairTrees_length [some ke] [ve] X.env pos rfl rfl
  rw [arm_eval_Dict, zip_pairTrees [some ke] [ve] X.env pos rfl rfl, dictDisplay_pairs (pairTrees [some ke] [ve] X.env pos) (fun z => by rw [z] at hlen; exact nomatch hlen) (by rw [hlen]; exact (show 1 < 17 by decide))]
  refine wpAny_bind (wpAny_standAt (wpAny_bind (wpAny_subDictH (knd := tupleKind (mixKind X.prog X.w)) (Nat.lt_of_succ_lt hu) (by rw [hlen]; exact (show 1 ≤ 15 by decide)) ?_)))
  refine pairTrees_cons_walk (thn (hk.run pins _ σ _ _ I1 (q _ hn)) fun u s1 ⟨x, H1, I1, rx, q1⟩ => thn (hv.run pins s1 σ H1 _ I1 q1) fun w2 s2 ⟨y, H2, I2, ry, k, b, ex, hp, hb, q2⟩ => pairTrees_nil_walk ?_)
  subst ex
  obtain rfl : u = Value.ref b := rx
  obtain ⟨z, hd, xs0, r0, dd⟩ := dt_of I2.hok hp
  cases r0
  refine ⟨[(k, b, w2)], ⟨rfl, rfl, key_of I2.hok hb, trivial⟩, dd, fun h' tk dd' hs => wpAny_pure ⟨.ref s.heap.objs.size, _, ?_, rfl, q2⟩⟩
  obtain ⟨o, es, ep, hq, g2, g3, g4, _, g5⟩ := dd'
  refine d_write I2 (by rw [hp]; exact True.intro) hs ⟨o, hq⟩ ⟨(by rw [sizeLine_eq]; exact (show 1 ≤ 16777216 by decide)), hd, _, ?_, o, es, ep, hq, g2, g3, g4, g5⟩
  refine Paired.cons ⟨rfl, ?_, ry⟩ .nil
  rw [upd_ne (ne_of hb hp (fun z => nomatch z))]
  exact hb
end Tm
set_option maxHeartbeats 2000000
namespace Tm
open PySem PySem.Spec PyProof.Rows L2
open Enc (den)
/-! ### things that change: lists, dicts, fields -/
section
variable {X : Cx} {M : List Addr} {σ : L2.St} {H H' : Hp} {e o a b i : Expr} {es : List Expr} {pos p p' apos cpos : Pos} {α β : Type} [Enc α] [Enc β] {Q : VK} {rest : List Stmt} {D : Ends}
/-- xs.append(e) -/
theorem we_append {l : Addr} {xs : List V} {y : α} (d : Dom M H) (ho : VE X M σ H o (V.ref l)) (he : VE X M σ H e y) (hl : H l = some (.lst xs)) (hz : xs.length < 90000) (k : ∀ v H1, Ex H H1 → den X.K (hide M H1) v y → Q .non (upd H1 l (.lst (xs ++ [v]))))
    (hbase : attributeBase o "append" X.env (eval o X.env) = eval o X.env := by rfl)
    (hfew : ((backTo cpos (starEach [e] X.env)).all (fun x => !x.1) && (backToKw cpos (keywordEach [] X.env)).all (fun x => x.1.isSome)
      && decide (([e] : List Expr).length + ([] : List Keyword).length + (if ([] : List Keyword).isEmpty then 0 else 1) < 30)) = true := by rfl)
    (hline : (apos.endLine == cpos.line) = true := by rfl) (hs : starEach [e] X.env = (false, eval e X.env) :: starEach [] X.env := by rfl) (hplain : (backTo cpos (starEach [] X.env)).any (·.1) = false := by rfl) : WE X (.Call (.Attribute o "append" apos) [e] [] cpos) σ H Q :=
  we_of (pe_bm F.plainAttrs_list F.slot_list_append F.type_list_append mt_append pw (pa_cons pw pa_nil hs) hbase hfew hline hs hplain) (ho H Ex.rfl' d _ fun u H1 e1 du => by
    rw [show u = .ref l from du]
    exact ⟨.inl ⟨rfl, xs, .inl (.inl (e1 l _ hl))⟩, he H1 e1 (d.ex e1) _ fun v H2 e2 dv => ⟨l, xs, v, rfl, rfl, Ex.tr e1 e2 l _ hl, szl (by omega), k v H2 (Ex.tr e1 e2) dv⟩⟩)
/-- d[k] = e -/
theorem wb_dset {l : Addr} {kvs : List (Key × V)} {x : Str} {y : α} (hu : X.A.units + 1 < cLine) (d : Dom M H) (he : VE X M σ H e y) (ho : VE X M σ H o (V.ref l)) (hi : VE X M σ H i x) (hl : H l = some (.dK kvs)) (hz : kvs.length < 90000)
    (k : ∀ v H1, Ex H H1 → den X.K (hide M H1) v y → WB X rest D σ (upd H1 l (.dK (putK kvs (Sum.inr x) v)))) (hs : swapsWith e (some (.Subscript o i p')) pos.line X.env = pure false := by rfl) : WB X (.Assign [.Subscript o i p'] e pos :: rest) D σ H :=
  wb_cons (ws_of (ps_dput hu pw pw pw hs) (he H Ex.rfl' d _ fun v H1 e1 dv => ho H1 e1 (d.ex e1) _ fun u H2 e2 du => hi H2 (Ex.tr e1 e2) (d.ex (Ex.tr e1 e2)) _ fun w H3 e3 dw => by
    have e13 := Ex.tr (Ex.tr e1 e2) e3
    rw [show w = kV (Sum.inr x) from dw]
    exact ⟨l, _, du, DPut.k (e13 l _ hl) (szl (by omega)), k v H3 e13 (Enc.mono (Ex.hide (Ex.tr e2 e3)) dv)⟩))
/-- o.f = e -/
theorem wb_fset {C dx q : Addr} {fs : List (Str × V)} {f : Str} (cl : Cls X.K C) (na : NoAttr X.K C f) (hz : fs.length < 1000) (he : WE X e σ H fun v H1 => ∃ M, Dom M H1 ∧ VE X M σ H1 o (V.ref q) ∧ H1 q = some (.ins C dx fs) ∧ ∀ H2, Ex H1 H2 → WB X rest D σ (upd H2 q (.ins C dx (putF f v fs))))
    (hs : swapsWith e (some (.Attribute o f p')) pos.line X.env = pure false := by rfl) : WB X (.Assign [.Attribute o f p'] e pos :: rest) D σ H :=
  wb_cons (ws_of (ps_fld pw pw hs) (fun pins s I => thn (he pins s I) fun u s1 ⟨v, H1, I1, r1, M, d, ho, hq, k⟩ => ⟨v, H1, I1, r1, ho H1 Ex.rfl' d _ fun w H2 e2 dw => ⟨q, C, dx, fs, dw, e2 q _ hq, cl, na, hz, k H2 e2⟩⟩))
/-- d.setdefault(k, e), texts as keys -/
theorem we_setd {l : Addr} {kvs : List (Key × V)} {x : Str} {y : α} (d : Dom M H) (ho : VE X M σ H o (V.ref l)) (hi : VE X M σ H i x) (he : VE X M σ H e y) (hl : H l = some (.dK kvs)) (hz : kvs.length < 90000)
    (k : ∀ v H1, Ex H H1 → den X.K (hide M H1) v y → (∀ u, valV kvs (Sum.inr x : Key) = some u → Q u H1) ∧ (valV kvs (Sum.inr x : Key) = none → Q v (upd H1 l (.dK (putK kvs (Sum.inr x) v))))) (m : M2 X o "setdefault" apos i e cpos := by exact ⟨rfl, rfl, rfl, rfl⟩) :
    WE X (.Call (.Attribute o "setdefault" apos) [i, e] [] cpos) σ H Q :=
  we_of (pe_dsetd pw pw pw m) (ho H Ex.rfl' d _ fun u H1 e1 du => ⟨l, du, .inl ⟨kvs, .inl (e1 l _ hl)⟩, hi H1 e1 (d.ex e1) _ fun w H2 e2 dw => he H2 (Ex.tr e1 e2) (d.ex (Ex.tr e1 e2)) _ fun v H3 e3 dv => by
    have e13 := Ex.tr (Ex.tr e1 e2) e3
    obtain ⟨k1, k2⟩ := k v H3 e13 dv
    exact ⟨kvs, Sum.inr x, e13 l _ hl, dw, szl (by omega), k1, k2⟩⟩)
end
/-! ### tables of pairs of texts -/
abbrev PTab := List ((Str × Str) × Str)
def ltab (lw : PTab) : List (List Key × V) := lw.map fun z => ([Sum.inr z.1.1, Sum.inr z.1.2], V.str z.2)
def tGet (lw : PTab) (a b : Str) : Option Str := (lw.find? fun z => decide (z.1 = (a, b))).map (·.2)
def tSetd (lw : PTab) (a b n : Str) : PTab := if (tGet lw a b).isSome = true then lw else lw ++ [((a, b), n)]
theorem ltab_val (lw : PTab) (a b : Str) : valV (ltab lw) [Sum.inr a, Sum.inr b] = (tGet lw a b).map V.str := by
  induction lw with
  | nil => rfl
  | cons z lw ih =>
    by_cases h : z.1 = (a, b)
    · have e1 : valV (ltab (z :: lw)) [Sum.inr a, Sum.inr b] = some (V.str z.2) := valV_pos (by show ([Sum.inr z.1.1, Sum.inr z.1.2] : List Key) = _; rw [h])
      have e2 : tGet (z :: lw) a b = some z.2 := by unfold tGet; rw [List.find?_cons, decide_eq_true h]; rfl
      rw [e1, e2]
      rfl
    · have e1 : valV (ltab (z :: lw)) [Sum.inr a, Sum.inr b] = valV (ltab lw) [Sum.inr a, Sum.inr b] := valV_neg (by
        show ¬ ([Sum.inr z.1.1, Sum.inr z.1.2] : List Key) = _
        intro y
        injection y with y1 y2
        injection y2 with y2 _
        exact h (Prod.ext (Sum.inr.inj y1) (Sum.inr.inj y2)))
      have e2 : tGet (z :: lw) a b = tGet lw a b := by unfold tGet; rw [List.find?_cons, decide_eq_false h]
      rw [e1, e2, ih]
theorem ltab_put (lw : PTab) (a b n : Str) (h : valV (ltab lw) [Sum.inr a, Sum.inr b] = none) : putK (ltab lw) [Sum.inr a, Sum.inr b] (V.str n) = ltab (lw ++ [((a, b), n)]) := by
  unfold putK
  rw [valV_any, h, if_neg (show ¬ (none : Option V).isSome = true from fun z => nomatch z)]
  unfold ltab
  rw [List.map_append]
  rfl
theorem ltab_len (lw : PTab) : (ltab lw).length = lw.length := List.length_map ..
section
variable {X : Cx} {M : List Addr} {σ : L2.St} {H H' : Hp} {e o a b i : Expr} {pos p p' apos cpos tp : Pos} {cx : Nat} {Q : VK}
theorem wa_two {x y : Str} (d : Dom M H) (ha : VE X M σ H a x) (hb : VE X M σ H b y) {Q : List V → Hp → Prop} (q : ∀ H1, Ex H H1 → Q [.str x, .str y] H1) (h1 : starEach [a, b] X.env = (false, eval a X.env) :: starEach [b] X.env := by rfl) (h2 : starEach [b] X.env = (false, eval b X.env) :: starEach [] X.env := by rfl) : WA X [a, b] σ H Q :=
  wa_of (pa_cons pw (pa_cons pw pa_nil h2) h1) (two ha hb Ex.rfl' d fun v u H2 e2 d2 dv du => by
    rw [show v = .str x from dv, show u = .str y from du]
    exact q H2 e2)
/-- t.get((a, b)) -/
theorem ve_lget {l : Addr} {lw : PTab} {x y : Str} (hu : X.A.units + 1 < cLine) (ho : VE X M σ H o (V.ref l)) (ha : VE X M σ H a x) (hb : VE X M σ H b y) (hl : H l = some (.dT (ltab lw))) (m : M1 X o "get" apos (.Tuple [a, b] cx tp) cpos := by exact ⟨rfl, rfl, rfl, rfl⟩)
    (h1 : starEach [a, b] X.env = (false, eval a X.env) :: starEach [b] X.env := by rfl) (h2 : starEach [b] X.env = (false, eval b X.env) :: starEach [] X.env := by rfl) : VE X M σ H (.Call (.Attribute o "get" apos) [.Tuple [a, b] cx tp] [] cpos) (tGet lw x y) :=
  ve_rule (pe_dget1 hu pw (pe_tup paw) m) fun H1 e1 d Q q => ho H1 e1 d _ fun u H2 e2 du => ⟨l, du, .inr ⟨_, .inl (Ex.tr e1 e2 l _ hl)⟩, wa_two (d.ex e2) (ha.mono (Ex.tr e1 e2)) (hb.mono (Ex.tr e1 e2)) (fun H3 e3 => ⟨sz (show 2 ≤ 100000 by decide), fun r hr => by
    have e13 : Ex H1 (upd H3 r (.tup [V.str x, V.str y])) := Ex.tr (Ex.tr e2 e3) (Ex.new hr)
    refine ⟨_, DGet.t (k := [Sum.inr x, Sum.inr y]) (Ex.tr e1 e13 l _ hl) upd_same, q _ _ e13 ?_⟩
    rw [ltab_val]
    cases tGet lw x y with
    | none => exact rfl
    | some z => exact rfl⟩) h1 h2⟩
/-- t.setdefault((a, b), e) -/
theorem we_lsetd {l : Addr} {lw : PTab} {x y z : Str} (hu : X.A.units + 1 < cLine) (d : Dom M H) (ho : VE X M σ H o (V.ref l)) (ha : VE X M σ H a x) (hb : VE X M σ H b y) (he : VE X M σ H e z) (hl : H l = some (.dT (ltab lw))) (hz : lw.length < 90000)
    (k : ∀ v H1 H2, Ex H H1 → H2 l = some (.dT (ltab (tSetd lw x y z))) → (∀ c, c ≠ l → H2 c = H1 c) → Q v H2)
    (m : M2 X o "setdefault" apos (.Tuple [a, b] cx tp) e cpos := by exact ⟨rfl, rfl, rfl, rfl⟩) (h1 : starEach [a, b] X.env = (false, eval a X.env) :: starEach [b] X.env := by rfl) (h2 : starEach [b] X.env = (false, eval b X.env) :: starEach [] X.env := by rfl) :
    WE X (.Call (.Attribute o "setdefault" apos) [.Tuple [a, b] cx tp, e] [] cpos) σ H Q :=
  we_of (pe_dsetdT hu pw (pe_tup paw) pw m) (ho H Ex.rfl' d _ fun u H1 e1 du => ⟨l, du, .inr ⟨_, .inl (e1 l _ hl)⟩, wa_two (d.ex e1) (ha.mono e1) (hb.mono e1) (fun H2 e2 => ⟨sz (show 2 ≤ 100000 by decide), fun r hr => by
    have e12 : Ex H (upd H2 r (.tup [V.str x, V.str y])) := Ex.tr (Ex.tr e1 e2) (Ex.new hr)
    refine he _ e12 (d.ex e12) _ fun v H4 e4 dv => ?_
    have e14 : Ex H H4 := Ex.tr e12 e4
    rw [show v = .str z from dv]
    refine ⟨ltab lw, [Sum.inr x, Sum.inr y], r, e14 l _ hl, rfl, e4 r _ upd_same, szl (by rw [ltab_len]; omega), fun w hw => ?_, fun hn => ?_⟩
    · refine k w H4 H4 e14 ?_ fun _ _ => rfl
      rw [ltab_val] at hw
      have : (tGet lw x y).isSome = true := by
        cases h : tGet lw x y with
        | none => rw [h] at hw; exact nomatch hw
        | some _ => rfl
      unfold tSetd
      rw [if_pos this]
      exact e14 l _ hl
    · have h0 := hn
      rw [ltab_put lw x y z hn]
      rw [ltab_val] at h0
      have : ¬ (tGet lw x y).isSome = true := by
        cases h : tGet lw x y with
        | none => exact fun z => nomatch z
        | some _ => rw [h] at h0; exact nomatch h0
      refine k _ H4 _ e14 ?_ fun c hc => upd_ne hc
      unfold tSetd
      rw [if_neg this]
      exact upd_same⟩) h1 h2⟩)
/-- {(a, b): e} -/
theorem we_ldisp {x y z : Str} (hu : X.A.units + 1 < cLine) (d : Dom M H) (ha : VE X M σ H a x) (hb : VE X M σ H b y) (he : VE X M σ H e z) (k : ∀ q H1, H q = none → Ex H H1 → H1 q = some (.dT (ltab [((x, y), z)])) → Q (.ref q) H1)
    (h1 : starEach [a, b] X.env = (false, eval a X.env) :: starEach [b] X.env := by rfl) (h2 : starEach [b] X.env = (false, eval b X.env) :: starEach [] X.env := by rfl) : WE X (.Dict [some (.Tuple [a, b] cx tp)] [e] pos) σ H Q :=
  we_of (pe_disp1T hu (pe_tup paw) pw) fun q hq => by
    have e0 : Ex H (upd H q (.dT [])) := Ex.new hq
    refine wa_two (d.ex e0) (ha.mono e0) (hb.mono e0) (fun H2 e2 => ⟨sz (show 2 ≤ 100000 by decide), fun r hr => ?_⟩) h1 h2
    have e12 : Ex (upd H q (.dT [])) (upd H2 r (.tup [V.str x, V.str y])) := Ex.tr e2 (Ex.new hr)
    refine he _ (Ex.tr e0 e12) (d.ex (Ex.tr e0 e12)) _ fun v H4 e4 dv => ?_
    rw [show v = .str z from dv]
    refine ⟨[Sum.inr x, Sum.inr y], r, rfl, e4 q _ (e12 q _ upd_same), e4 r _ upd_same, k q _ hq (fun c u hc => ?_) upd_same⟩
    rw [upd_ne (ne_of_none hc hq)]
    exact e4 c u (e12 c u (e0 c u hc))
/-- {a: e} -/
theorem we_disp1 {x : Str} (d : Dom M H) (ha : VE X M σ H a x) (he : ∀ q H1, H q = none → Ex H H1 → Dom M H1 → H1 q = some (.dK []) → WE X e σ H1 fun v H2 => H2 q = some (.dK []) ∧ Q (.ref q) (upd H2 q (.dK [(Sum.inr x, v)]))) : WE X (.Dict [some a] [e] pos) σ H Q :=
  we_of (pe_disp (pps_cons pw pw pps_nil) rfl rfl (fun z => nomatch z) (by show 1 ≤ 15; decide)) fun q hq => by
    have e0 : Ex H (upd H q (.dK [])) := Ex.new hq
    refine ha _ e0 (d.ex e0) _ fun u H2 e2 du => ?_
    rw [show u = .str x from du]
    refine fun pins s I => thn (he q H2 hq (Ex.tr e0 e2) (d.ex (Ex.tr e0 e2)) (e2 q _ upd_same) pins s I) fun w s1 ⟨v, H3, I3, r3, h3, q3⟩ => ⟨v, H3, I3, r3, h3, [(Sum.inr x, v)], rfl, by show 1 ≤ 15; decide, q3⟩
/-- {} -/
theorem we_dnew (k : ∀ q, H q = none → Q (.ref q) (upd H q (.dK []))) : WE X (.Dict [] [] pos) σ H Q := we_of pe_dnewK k
end
/-! ### o.m(e, .., k = v) -/
def MEK (P : Program) (w : World) (K : PySem.W.Frag) (mg : Str → Option Value) (base : Heap) (C : Addr) (m : Str) (k n : Nat) (ks : List Str) (sp : Sp) : Prop :=
  ∃ f fd ps, FnOk P w K mg base (L2.CX P w) k f fd ps sp ∧ Meth K C m f ∧ KBn K fd ps n ks (fun us ws => us ++ ws) (fun vs zs => vs ++ zs)
section
variable {X : Cx} {W : WX} {σ : L2.St} {H : Hp} {e o : Expr} {es : List Expr} {pos apos : Pos} {m : Str} {k n : Nat} {ks : List Str} {sp : Sp} {Q : VK} {kws : List Keyword} {tk : TA}
theorem run_fnNS {pins : List (Addr × Obj)} {s : Shared} {f : Addr} {fd : FuncData} {ps : List Str} {us ws : List Value} {vs zs : List V} {g : List Value → List Value → List Value} {gV : List V → List V → List V} (tk : Takes X W) (F : FnOk X.prog X.w X.K X.mg X.base (L2.CX X.prog X.w) k f fd ps sp) (hr : Room k X.A) (hb : KBn X.K fd ps n ks g gV)
    (I : Inv X pins σ H s) (r : Vals vs us) (rz : Vals zs ws) (l1 : vs.length = n) (l2 : zs.length = ks.length) (h : sp (gV vs zs) H Q fun cls d H2 => W cls d σ H2) : wpAny (model X.prog X.w) X.A (call (.ref f) us (ks.zip ws)) (EP X pins σ Q) X.xe s := by
  have r2 := hb.rel r rz
  refine wpAny_call (codeAny_mono (F.run X.A X.stack s H ⟨us, ks.zip ws⟩ (g us ws) (gV vs zs) Q _ hr I.env0 (hb.to s us ws I.kIn (r.length.symm.trans l1) (rz.length.symm.trans l2)) r2 h) fun r s' hq => ?_)
  cases r with
  | error e => exact passAt tk σ pins H s e s' I hq
  | ok fl =>
    cases fl with
    | ret u => exact I.after hq
    | next => exact False.elim hq
    | brk => exact False.elim hq
    | cont => exact False.elim hq
theorem we_methK {pl : Sem Bool} {C : Addr} (tk' : Takes X W) (cl : Cls X.K C) (F : MEK X.prog X.w X.K X.mg X.base C m k n ks sp) (hr : Room k X.A) (hkw : PK X kws tk)
    (h : WE X o σ H fun v H1 => ∃ q dx fs, v = .ref q ∧ H1 q = some (.ins C dx fs) ∧ fs.lookup m = none ∧ WA X (e :: es) σ H1 fun vs H2 => tk σ H2 fun zs H3 => vs.length + 1 = n ∧ zs.length = ks.length ∧ sp ((.ref q :: vs) ++ zs) H3 Q fun cls d H4 => W cls d σ H4)
    (hall : (backToKw pos (keywordEach kws X.env)).all (·.1.isSome) = true := by rfl) (hks : (backToKw pos (keywordEach kws X.env)).filterMap (·.1) = ks := by rfl)
    (hst : starEach (e :: es) X.env = (false, eval e X.env) :: starEach es X.env := by rfl) (hpl : ((backTo pos (starEach (e :: es) X.env)).any (·.1) || (backToKw pos (keywordEach kws X.env)).any (·.1.isNone)) = false := by rfl)
    (ht : eval (.Call (.Attribute o m apos) (e :: es) kws pos) X.env = (do
      let ov ← eval o X.env
      standAt apos.atName
      let (f, first) ← holding [ov] (getMethod ov m pl)
      callWith pos f first (backTo pos (starEach (e :: es) X.env)) (backToKw pos (keywordEach kws X.env))) := by rfl) : WE X (.Call (.Attribute o m apos) (e :: es) kws pos) σ H Q := by
  obtain ⟨f, fd, ps, G, hm, hb⟩ := F
  intro pins s I
  refine PySem.W.methodCall_KW (pl := pl) (thn (h pins s I) fun u s1 ⟨v, H1, I1, rx, q, dx, fs, ex, ea, l, w⟩ => ?_) ht
  subst ex
  obtain rfl : u = Value.ref q := rx
  refine getmeth_ok I1 ea cl hm l ?_
  refine PySem.W.callWith_KW (first := [.ref q]) (h₀ := X.base) I.ok.mod.kin hm.kp hall (thn (w pos pins s1 I1) fun us s2 ⟨vs, H2, I2, r, q2⟩ => thn (hkw.run pos pins s2 σ H2 _ I2 q2) fun ws s3 ⟨zs, H3, I3, rz, l1, l2, q3⟩ => ⟨I3.kIn, ?_⟩) hpl hst
  rw [hks]
  exact run_fnNS (us := .ref q :: us) (vs := .ref q :: vs) tk' G hr hb I3 (.cons rfl r) rz (by rw [List.length_cons]; exact l1) l2 q3
end
end Tm
namespace Pl
open PySem L2
def top (i : Nat) : Stmt := PySem.Challenge.pw_traitmere_k01_names_of_kinds.main.body.getD i (.Pass ⟨0, 0, 0, 0⟩)
abbrev s__wall : Stmt := top 0
abbrev s_TraitError_init : Stmt := inClass (top 2) 0
abbrev s_Missing_init : Stmt := inClass (top 3) 0
abbrev s_Taken_init : Stmt := inClass (top 4) 0
abbrev s_Full_init : Stmt := inClass (top 5) 0
abbrev s_Forked_init : Stmt := inClass (top 6) 0
abbrev s_Twice_init : Stmt := inClass (top 7) 0
abbrev s_Strange_init : Stmt := inClass (top 8) 0
abbrev s_Wider_init : Stmt := inClass (top 9) 0
abbrev s_NoFit_init : Stmt := inClass (top 10) 0
abbrev s_Ring_init : Stmt := inClass (top 11) 0
abbrev s_Unfit_init : Stmt := inClass (top 12) 0
abbrev s_BadName_init : Stmt := inClass (top 13) 0
abbrev s_BadParts_init : Stmt := inClass (top 14) 0
abbrev s_NoKind_init : Stmt := inClass (top 15) 0
abbrev s_NoRoom_init : Stmt := inClass (top 16) 0
abbrev s_is_name : Stmt := top 20
abbrev s_all_fit : Stmt := top 22
abbrev s_fits : Stmt := top 23
abbrev s_Kinds_init : Stmt := inClass (top 27) 0
abbrev s_Kinds_len : Stmt := inClass (top 27) 1
abbrev s_Kinds_eq : Stmt := inClass (top 27) 2
abbrev s_Kinds_repr : Stmt := inClass (top 27) 3
abbrev s_Kinds_twin : Stmt := inClass (top 27) 4
abbrev s_Kinds_knows : Stmt := inClass (top 27) 5
abbrev s_Kinds_need : Stmt := inClass (top 27) 6
abbrev s_Kinds_names : Stmt := inClass (top 27) 7
abbrev s_Kinds_ups : Stmt := inClass (top 27) 8
abbrev s_Kinds_above : Stmt := inClass (top 27) 9
abbrev s_Kinds_under : Stmt := inClass (top 27) 10
abbrev s_Kinds_is_below : Stmt := inClass (top 27) 11
abbrev s_Kinds_low : Stmt := inClass (top 27) 12
abbrev s_Kinds_high : Stmt := inClass (top 27) 13
abbrev s_Kinds_rooms : Stmt := inClass (top 27) 14
abbrev s_Kinds_told : Stmt := inClass (top 27) 15
abbrev s_Kinds_home : Stmt := inClass (top 27) 16
abbrev s_Kinds_let_in : Stmt := inClass (top 27) 17
abbrev s_Kinds_low_of_all : Stmt := inClass (top 27) 18
abbrev s_Kinds_inherited : Stmt := inClass (top 27) 19
abbrev s_Kinds_look_at_fork : Stmt := inClass (top 27) 20
abbrev s_Kinds_told_rooms : Stmt := inClass (top 27) 21
abbrev s_Kinds_all_rooms : Stmt := inClass (top 27) 22
abbrev s_Kinds_put : Stmt := inClass (top 27) 23
abbrev s_Kinds_enter : Stmt := inClass (top 27) 24
abbrev s_Kinds_lose : Stmt := inClass (top 27) 25
abbrev s_Kinds_needed : Stmt := inClass (top 27) 26
abbrev s_Kinds_drop : Stmt := inClass (top 27) 27
abbrev s_Kinds_leads : Stmt := inClass (top 27) 28
abbrev s_Kinds_goes_round : Stmt := inClass (top 27) 29
abbrev s_Kinds_must : Stmt := inClass (top 27) 30
abbrev s_Kinds_free : Stmt := inClass (top 27) 31
abbrev s_Kinds_must_of : Stmt := inClass (top 27) 32
abbrev s_Kinds_musted : Stmt := inClass (top 27) 33
abbrev s__law_bag : Stmt := top 29
abbrev s__law_pull : Stmt := top 30
abbrev s__law_same : Stmt := top 31
abbrev s__law_good_name : Stmt := top 32
abbrev s__law_put_told : Stmt := top 33
abbrev s__law_some_text : Stmt := top 34
abbrev s_law : Stmt := top 35
end Pl
set_option maxHeartbeats 4000000
namespace Tm
open PySem PySem.Spec PyProof.Rows L2 Pl
open Enc (den)
abbrev Fd (K : PySem.W.Frag) (x q : Str) (st : Stmt) (f : Addr) (fd : FuncData) : Prop := FunD K x q (defArgs st) (defBody st) (defScope st) [] [] f fd
/-- the law's bag of numbers, at b -/
def BagAt (K : PySem.W.Frag) (M : List Addr) (H : Hp) (b : Addr) : Prop :=
  b ∈ M ∧ ∃ (l : Addr) (ns : List Int) (i : Nat) (j r : Int), H b = some (.lst [.ref l, .int i, .int j, .int r]) ∧ den K (hide M H) (.ref l) ns ∧ 0 ≤ j ∧ 0 ≤ r ∧ r < 2147483647
/-- a number below many is pulled, whichever -/
def spPull (K : PySem.W.Frag) : Sp := fun vs H Q _ => ∃ (M : List Addr) (b : Addr) (many : Int), vs = [.ref b, .int many] ∧ Dom M H ∧ BagAt K M H b ∧ 0 < many ∧ many < 1073741824 ∧
  ∀ x H', 0 ≤ x → x < many → BagAt K M H' b → Bt [b] H H' → Q (.int x) H'
section
variable {P : Program} {w : World} {K : PySem.W.Frag} {mg : Str → Option Value} {base : Heap} {f : Addr} {fd : FuncData}
abbrev nPull : List Str := ["_law_bag_here", "_law_many", "_law_cell", "_law_got", "_law_once"]
theorem scPull : FnScope nPull ["_law_bag_here", "_law_many"] (defScope s__law_pull) := ⟨rfl, rfl, rfl, by decide +kernel, rfl, by decide +kernel, by decide +kernel⟩
theorem small_mul {i j : Int} (h : 0 ≤ j) (h' : j < 4294967296) : CMul i j := .inr ⟨by omega, by omega⟩
theorem ok_pull (F : Fd K "_law_pull" "_law_pull" s__law_pull f fd) (hlen : mg "len" = none) : FnOk P w K mg base (L2.CX P w) 1 f fd ["_law_bag_here", "_law_many"] (spPull K) := by
  refine F.ok scPull (fun vs H Q E h => ?_) (fun cdv A outer s H vs Q E hr h => ⟨_, pbw, ?_⟩)
  · obtain ⟨M, b, many, rfl, _⟩ := h
    rfl
  obtain ⟨M, b, many, rfl, dm, ⟨bm, l, ns, i, j, r, hb, hl, hj, hr0, hr1⟩, hm0, hm1, k⟩ := h
  have sb : ∀ x ∈ [b], x ∈ M := fun x hx => by rw [List.mem_singleton.mp hx]; exact bm
  generalize hX : cxOf (L2.CX P w) P w K mg base nPull "_law_pull" (defScope s__law_pull) f cdv A outer s H E = X
  have it : ∀ (n : Nat) (z : Int) (i : Nat) (j r : Int) (jj : Nat) (p p' p'' : Pos) (vc vg vo : Option V) (H1 : Hp), H1 b = some (.lst [.ref l, .int i, .int j, .int r]) → [V.ref l, V.int (i : Int), V.int j, V.int r][n]? = some (V.int z) →
      VE X M [some (.ref b), some (.int many), vc, vg, vo] H1 (.Subscript (.Name "_law_bag_here" p) (.Constant (.int (n : Int)) jj p') p'') z := by
    subst hX
    exact fun n z i j r jj p p' p'' vc vg vo H1 h1 hz => ve_ixM (ve_raw 0 rfl) ve_int h1 (atI_nat hz) rfl
  -- what stands behind the bag's last store
  have out : ∀ (x : Int) (i : Nat) (j r : Int) (H1 : Hp), H1 b = some (.lst [.ref l, .int i, .int j, .int r]) → Bt [b] H H1 → 0 ≤ j → 0 ≤ r → r < 2147483647 → 0 ≤ x → x < many → Q (.int x) H1 := by
    intro x i j r H1 h1 bt hj hr0 hr1 hx hx'
    exact k x H1 hx hx' ⟨bm, l, ns, i, j, r, h1, Enc.mono (bt.hide sb) hl, hj, hr0, hr1⟩ bt
  -- the end, from any state of the bag
  have fin : ∀ (vc : Option V) (i : Nat) (j r : Int) (H1 : Hp), H1 b = some (.lst [.ref l, .int i, .int j, .int r]) → Bt [b] H H1 → 0 ≤ j → 0 ≤ r → r < 2147483647 →
      WB X ((defBody s__law_pull).drop 1) { nx := fun _ H' => Q .non H', rt := Q } [some (.ref b), some (.int many), vc, none, none] H1 := by
    intro vc i j r H1 h1 bt hj hr0 hr1
    have dm1 : Dom M H1 := bt.dom1 dm h1
    have it1 := fun n z jj p p' p'' vg vo => it n z i j r jj p p' p'' vc vg vo
    subst hX
    refine wb_when dm1 (vc_ge (it1 2 j _ _ _ _ _ _ _ h1 rfl) (ve_var 1 (y := many) rfl rfl)).vt (fun hy H2 e2 => ?_) fun hy H2 e2 => ?_
    · have hmj : many ≤ j := of_decide_eq_true hy
      have h2 := e2 b _ h1
      refine wb_set (i := 3) scPull.nd (dm1.ex e2) (ve_mod (it1 2 j _ _ _ _ _ _ _ h2 rfl) (ve_var 1 (y := many) rfl rfl) hm0) fun v H3 e3 dv => ?_
      have h3 := e3 b _ h2
      have e13 := Ex.tr e2 e3
      refine wb_setL (j := 2) (dm1.ex e13) (ve_fdiv (it1 2 j _ _ _ _ _ _ _ h3 rfl) (ve_var 1 (y := many) rfl rfl) ⟨hm0, hm1⟩) (ve_raw 0 rfl) ve_int h3 rfl fun u H4 e4 du => ?_
      refine wb_ret (M := M) ((dm1.ex (Ex.tr e13 e4)).upd) (ve_var 3 (y := j % many) rfl dv) fun z H5 e5 dz => ?_
      rw [show z = .int (j % many) from dz]
      refine out _ i (j / many) r H5 (e5 b _ ?_) ((bt.tr (.ex (Ex.tr e13 e4))).up (by simp) |>.tr (.ex e5)) (Int.ediv_nonneg hj (by omega)) hr0 hr1 (Int.emod_nonneg _ (by omega)) (Int.emod_lt_of_pos _ hm0)
      rw [show u = .int (j / many) from du]
      exact upd_same
    · have h2 := e2 b _ h1
      have rr : CMul r r := small_mul hr0 (by omega)
      refine wb_set (i := 4) scPull.nd (dm1.ex e2) (ve_mul (ve_mod (ve_mul (it1 3 r _ _ _ _ _ _ _ h2 rfl) (it1 3 r _ _ _ _ _ _ _ h2 rfl) rr) ve_int (by decide)) ve_int (small_mul (by decide) (by decide))) fun v H3 e3 dv => ?_
      have h3 := e3 b _ h2
      have e13 := Ex.tr e2 e3
      refine wb_setL (j := 3) (dm1.ex e13) (ve_mod (ve_add (ve_add (ve_var 4 rfl dv) (ve_mul (it1 3 r _ _ _ _ _ _ _ h3 rfl) ve_int (small_mul (by decide) (by decide)))) ve_int) ve_int (by decide)) (ve_raw 0 rfl) ve_int h3 rfl fun u H4 e4 du => ?_
      generalize hr' : (r * r % 2147483629 * 16807 + r * 40692 + 12345) % 2147483647 = r' at du
      have du' : u = .int r' := by first | exact du | (rw [← hr']; exact du)
      have r'0 : 0 ≤ r' := by rw [← hr']; exact Int.emod_nonneg _ (by decide)
      have r'1 : r' < 2147483647 := by rw [← hr']; exact Int.emod_lt_of_pos _ (by decide)
      subst du'
      have h4 : upd H4 b (.lst [.ref l, .int i, .int j, .int r']) b = some (.lst [.ref l, .int i, .int j, .int r']) := upd_same
      show WB _ _ _ _ (upd H4 b (.lst [.ref l, .int i, .int j, .int r']))
      refine wb_ret (M := M) ((dm1.ex (Ex.tr e13 e4)).upd) (ve_mod (ve_fdiv (it 3 r' i j r' _ _ _ _ _ _ _ _ h4 rfl) ve_int ⟨by decide, by decide⟩) (ve_var 1 (y := many) rfl rfl) hm0) fun z H5 e5 dz => ?_
      rw [show z = .int (r' / 53 % many) from dz]
      exact out _ i j r' H5 (e5 b _ h4) ((bt.tr (.ex (Ex.tr e13 e4))).up (by simp) |>.tr (.ex e5)) hj r'0 r'1 (Int.emod_nonneg _ (by omega)) (Int.emod_lt_of_pos _ hm0)
  have hd : defBody s__law_pull = (defBody s__law_pull).head (by decide +kernel) :: (defBody s__law_pull).drop 1 := by rfl
  subst hX
  refine wb_when dm (VW.vt (vw_and (vc_lt (it 2 j i j r _ _ _ _ _ _ _ _ hb rfl) (ve_var 1 (y := many) rfl rfl)).vt fun _ => vw_and1 (vc_lt (it 1 i i j r _ _ _ _ _ _ _ _ hb rfl) (ve_lenL hlen (ve_ixM (y := ns) (ve_raw 0 rfl) ve_int hb rfl hl))).vt)) (fun hy H2 e2 => ?_) fun hy H2 e2 => ?_
  · have hi : (i : Int) < (ns.length : Int) := of_decide_eq_true (Bool.and_eq_true_iff.mp hy).2
    have hi' : i < ns.length := by omega
    have h2 := e2 b _ hb
    have hl2 : den K (hide M H2) (V.ref l) ns := Enc.mono (Ex.hide e2) hl
    obtain ⟨c, hc⟩ : ∃ c, ns[i]? = some c := ⟨ns[i], List.getElem?_eq_getElem hi'⟩
    refine wb_set (i := 2) scPull.nd (dm.ex e2) (ve_ixL (xs := ns) (ve_ixM (y := ns) (ve_raw 0 rfl) ve_int h2 rfl hl2) (it 1 i i j r _ _ _ _ _ _ _ _ h2 rfl) rfl hc) fun v H3 e3 dv => ?_
    rw [show v = .int c from dv]
    have h3 := e3 b _ h2
    have e13 := Ex.tr e2 e3
    refine wb_setL (j := 1) (dm.ex e13) (ve_add (it 1 i i j r _ _ _ _ _ _ _ _ h3 rfl) ve_int) (ve_raw 0 rfl) ve_int h3 rfl fun u H4 e4 du => ?_
    rw [show u = .int ((i + 1 : Nat) : Int) from du]
    show WB _ _ _ _ (upd H4 b (.lst [.ref l, .int ((i + 1 : Nat) : Int), .int j, .int r]))
    have b4 : Bt [b] H (upd H4 b (.lst [.ref l, .int ((i + 1 : Nat) : Int), .int j, .int r])) := (Bt.ex (Ex.tr e13 e4)).up (by simp)
    have h4 : upd H4 b (.lst [.ref l, .int ((i + 1 : Nat) : Int), .int j, .int r]) b = some _ := upd_same
    generalize upd H4 b (.lst [.ref l, .int ((i + 1 : Nat) : Int), .int j, .int r]) = H5 at b4 h4
    refine wb_setL (j := 2) (M := M) (b4.dom1 dm h4) ve_int (ve_raw 0 rfl) ve_int h4 rfl fun u H6 e6 du => ?_
    rw [show u = .int 0 from du]
    show WB _ _ _ _ (upd H6 b (.lst [.ref l, .int ((i + 1 : Nat) : Int), .int 0, .int r]))
    have b7 : Bt [b] H (upd H6 b (.lst [.ref l, .int ((i + 1 : Nat) : Int), .int 0, .int r])) := (b4.tr (Bt.ex e6)).up (by simp)
    have h7 : upd H6 b (.lst [.ref l, .int ((i + 1 : Nat) : Int), .int 0, .int r]) b = some _ := upd_same
    generalize upd H6 b (.lst [.ref l, .int ((i + 1 : Nat) : Int), .int 0, .int r]) = H7 at b7 h7
    have dm7 : Dom M H7 := b7.dom1 dm h7
    -- the sign turned
    refine wb_cut (fun σ' H8 => ∃ c' : Int, σ' = [some (.ref b), some (.int many), some (.int c'), none, none] ∧ H8 b = some (.lst [.ref l, .int ((i + 1 : Nat) : Int), .int 0, .int r]) ∧ Bt [b] H H8) (ws_when dm7 (vc_lt (ve_var 2 (y := c) rfl rfl) ve_int).vt (fun _ H8 e8 => ?_) fun _ H8 e8 => ?_) ?_
    · refine wb_set (i := 2) (M := M) scPull.nd (dm7.ex e8) (ve_sub ve_int (ve_mul ve_int (ve_var 2 (y := c) rfl rfl) (.inl ⟨by decide, by decide⟩))) fun v H9 e9 dv => wb_nil ?_
      rw [show v = .int (7 - 3 * c) from dv]
      exact ⟨_, rfl, e9 b _ (e8 b _ h7), b7.tr (.ex (Ex.tr e8 e9))⟩
    · exact ⟨c, rfl, e8 b _ h7, b7.tr (.ex e8)⟩
    rintro _ H8 ⟨c', rfl, h8, b8⟩
    have dm8 : Dom M H8 := b8.dom1 dm h8
    refine wb_cut (fun σ' H9 => ∃ j' : Int, 0 ≤ j' ∧ σ' = [some (.ref b), some (.int many), some (.int c'), none, none] ∧ H9 b = some (.lst [.ref l, .int ((i + 1 : Nat) : Int), .int j', .int r]) ∧ Bt [b] H H9) (ws_when dm8 (vc_ge (ve_var 2 (y := c') rfl rfl) (ve_pow ve_int ve_int ⟨by decide, by decide, by decide⟩)).vt (fun hy H9 e9 => ?_) fun _ H9 e9 => ?_) ?_
    · refine wb_setL (j := 2) (M := M) (dm8.ex e9) (ve_var 2 (y := c') rfl rfl) (ve_raw 0 rfl) ve_int (e9 b _ h8) rfl fun u Ha ea du => wb_nil ?_
      rw [show u = .int c' from du]
      refine ⟨c', ?_, rfl, upd_same, (b8.tr (.ex (Ex.tr e9 ea))).up (by simp)⟩
      have : (10 : Int) ^ (18 : Int).toNat ≤ c' := of_decide_eq_true hy
      have h10 : (0 : Int) ≤ 10 ^ (18 : Int).toNat := by decide
      omega
    · exact ⟨0, by decide, rfl, e9 b _ h8, b8.tr (.ex e9)⟩
    rintro _ H9 ⟨j', hj', rfl, h9, b9⟩
    have dm9 : Dom M H9 := b9.dom1 dm h9
    refine wb_setL (j := 3) (M := M) dm9 (ve_mod (ve_add (ve_add (ve_mul (it 3 r (i + 1) j' r _ _ _ _ _ _ _ _ h9 rfl) ve_int (small_mul (by decide) (by decide))) (ve_mul (ve_var 2 (y := c') rfl rfl) ve_int (small_mul (by decide) (by decide)))) (ve_mul (it 1 ((i + 1 : Nat) : Int) (i + 1) j' r _ _ _ _ _ _ _ _ h9 rfl) ve_int (small_mul (by decide) (by decide)))) ve_int (by decide)) (ve_raw 0 rfl) ve_int h9 rfl fun u Ha ea du => wb_nil ?_
    generalize hr' : (r * 48271 + c' * 7919 + ((i + 1 : Nat) : Int) * 101) % 2147483647 = r' at du
    have du' : u = .int r' := by first | exact du | (rw [← hr']; exact du)
    have r'0 : 0 ≤ r' := by rw [← hr']; exact Int.emod_nonneg _ (by decide)
    have r'1 : r' < 2147483647 := by rw [← hr']; exact Int.emod_lt_of_pos _ (by decide)
    subst du'
    exact fin _ (i + 1) j' r' _ upd_same ((b9.tr (.ex ea)).up (by simp)) hj' r'0 r'1
  · exact fin _ i j r H2 (e2 b _ hb) (.ex e2) hj hr0 hr1
end
end Tm
set_option maxHeartbeats 4000000
namespace Tm
open PySem PySem.Spec PyProof.Rows L2 Pl
open Enc (den)
/-! ### own errors -/
/-- an exception at a that has got its dict at dx, all else as it was -/
def Got (C a dx : Addr) (fs : List (Str × V)) (H H' : Hp) : Prop := H dx = none ∧ dx ≠ a ∧ H' a = some (exo a C (some dx)) ∧ H' dx = some (exd dx fs) ∧ ∀ b, b ≠ a → b ≠ dx → H' b = H b
/-- a base's __init__: the text told stands as called -/
def spBase (K : PySem.W.Frag) : Sp := fun vs H Q _ => ∃ (a C : Addr) (v : V), vs = [.ref a, v] ∧ OexC K C ∧ PySem.W.findIn K (.ref C) "called" = some none ∧ H a = some (exo a C none) ∧ ∀ dx H', Got C a dx [(("called" : Str), v)] H H' → Q .non H'
/-- an error's own __init__ -/
def spErr (C : Addr) (x : Str) (fs : List Str) : Sp := fun vs H Q _ => ∃ (a : Addr) (ws : List V), vs = .ref a :: ws ∧ ws.length = fs.length ∧ H a = some (exo a C none) ∧ ∀ dx H', Got C a dx ((fs.zip ws).reverse ++ [(("called" : Str), V.str x)]) H H' → Q .non H'
/-- C.m(e, ..): a plain def read off its class -/
structure ClsF (K : PySem.W.Frag) (C : Addr) (m : Str) (f : Addr) : Prop where
  ga : PySem.W.specialIn K (.ref C) "__getattribute__" = some (some (.builtin "type.__getattribute__"))
  rd : PySem.W.readsIn K C (.type "type") = true
  fi : PySem.W.findCls K (.ref C) (.type "type") m = some (.val (.ref f))
  kp : PySem.W.keepIn K (.ref f) = true
section
variable {X : Cx} {W : WX} {M : List Addr} {σ : L2.St} {H H' : Hp} {e : Expr} {es : List Expr} {pos p apos : Pos} {x m : Str} {k : Nat} {sp : Sp} {Q : VK} {C f : Addr} {fd : FuncData} {ps : List Str}
theorem we_clsCall {pl : Sem Bool} (tk : Takes X W) (T : ClsF X.K C m f) (F : FnOk X.prog X.w X.K X.mg X.base (L2.CX X.prog X.w) k f fd ps sp) (hb : Binds X.K fd ps []) (hm : X.mg x = some (.ref C)) (hr : Room k X.A)
    (h : WA X (e :: es) σ H fun vs H2 => sp vs H2 Q fun cls d H3 => W cls d σ H3) (hg : Gl X x := by rfl) (hdb : (x == ("__debug__" : Str)) = false := by decide)
    (hst : starEach (e :: es) X.env = (false, eval e X.env) :: starEach es X.env := by rfl) (hpl : (backTo pos (starEach es X.env)).any (·.1) = false := by rfl)
    (ht : eval (.Call (.Attribute (.Name x p) m apos) (e :: es) [] pos) X.env = (do
      let ov ← eval (.Name x p) X.env
      standAt apos.atName
      let (f, first) ← holding [ov] (getMethod ov m pl)
      callWith pos f first (backTo pos (starEach (e :: es) X.env)) (backToKw pos (keywordEach [] X.env))) := by rfl) : WE X (.Call (.Attribute (.Name x p) m apos) (e :: es) [] pos) σ H Q := by
  intro pins s I
  refine PySem.W.methodCall_KW (pl := pl) (ld_glob I hg hm ?_ hdb) ht
  refine PySem.W.method_cls I.kIn T.ga (PySem.W.cls_value I.kIn T.rd T.fi rfl ?_)
  refine PySem.W.callWith_K (first := []) (h₀ := X.base) I.ok.mod.kin T.kp (thn (h pos pins _ (I.tok _)) fun us s2 ⟨vs, H2, I2, r, q2⟩ => ⟨I2.kIn, ?_⟩) hst hpl
  exact run_fnS (us := us) (vs := vs) (E := fun σ cls d H => W cls d σ H) F hr hb (passAt tk σ) I2 r q2
end
section
variable {P : Program} {w : World} {K : PySem.W.Frag} {mg : Str → Option Value} {base : Heap} {f : Addr} {fd : FuncData}
theorem scTE : FnScope ["self", "called"] ["self", "called"] (defScope s_TraitError_init) := ⟨rfl, rfl, rfl, by decide +kernel, rfl, by decide +kernel, by decide +kernel⟩
theorem ve_init_fact : PySem.W.findCls K (.type "ValueError") (.type "type") "__init__" = some (.val (.builtin "ValueError.__init__")) := by
  first | rfl | (show PySem.W.findCls [] _ _ _ = _; decide +kernel)
theorem ok_TE (F : Fd K "__init__" "TraitError.__init__" s_TraitError_init f fd) (hv : mg "ValueError" = none) : FnOk P w K mg base (L2.CX P w) 1 f fd ["self", "called"] (spBase K) := by
  refine F.ok scTE (fun vs H Q E h => ?_) (fun cdv A outer s H vs Q E hr h => ⟨_, pbw, ?_⟩)
  · obtain ⟨a, C, v, rfl, _⟩ := h
    rfl
  obtain ⟨a, C, v, rfl, T, hc, ha, k⟩ := h
  refine wb_exprW (we_of (pe_veinit rfl hv ve_init_fact (pa_cons (pv 0) (pa_cons (pv 1) pa_nil))) ⟨_, rfl, _, rfl, a, C, [v], rfl, (show 1 ≤ 1000 by decide), T, ha, ?_⟩)
  refine wb_one (ws_of (ps_ost (pv 0) (pv 1)) ⟨_, rfl, _, rfl, a, C, rfl, T, hc, .inl ⟨ha, fun dx hd hn => ?_⟩⟩)
  refine k dx _ ⟨hd, hn, upd_same, ?_, fun b h1 h2 => ?_⟩
  · rw [upd_ne hn, upd_same]
  · rw [upd_ne h1, upd_ne h2]
theorem sc_Taken : FnScope ["self", "name"] ["self", "name"] (defScope s_Taken_init) := ⟨rfl, rfl, rfl, by decide +kernel, rfl, by decide +kernel, by decide +kernel⟩
theorem ok_Taken {C CB fB : Addr} {fdB : FuncData} {psB : List Str} (F : Fd K "__init__" "Taken.__init__" s_Taken_init f fd) (T : OexC K C) (nC : PySem.W.findIn K (.ref C) "called" = some none) (n0 : PySem.W.findIn K (.ref C) "name" = some none) (TB : ClsF K CB "__init__" fB) (FB : FnOk P w K mg base (L2.CX P w) 1 fB fdB psB (spBase K)) (bB : Binds K fdB psB []) (gB : mg "TraitError" = some (.ref CB)) :
    FnOk P w K mg base (L2.CX P w) 2 f fd ["self", "name"] (spErr C "Taken" ["name"]) := by
  refine F.ok sc_Taken (fun vs H Q E h => ?_) (fun cdv A outer s H vs Q E hr h => ⟨_, pbw, ?_⟩)
  · obtain ⟨a, ws, rfl, hl, _⟩ := h
    obtain ⟨v, rfl⟩ := List.length_eq_one_iff.mp hl
    rfl
  obtain ⟨a, ws, rfl, hl, ha, k⟩ := h
  obtain ⟨v, rfl⟩ := List.length_eq_one_iff.mp hl
  refine wb_exprW (we_clsCall (W := fun _ _ _ _ => False) takes0 TB FB bB gB hr (wa_of (pa_cons (pv 0) (pa_cons pe_str pa_nil)) ⟨_, rfl, a, C, _, rfl, T, nC, ha, fun dx H1 g => ?_⟩))
  obtain ⟨g1, g2, g3, g4, g5⟩ := g
  refine wb_one (ws_of (ps_ost (pv 0) (pv 1)) ⟨_, rfl, _, rfl, a, C, rfl, T, n0, .inr ⟨dx, _, g3, g4, (show 1 ≤ 900 by decide), ?_⟩⟩)
  refine k dx _ ⟨g1, g2, ?_, upd_same, fun b h1 h2 => ?_⟩
  · rw [upd_ne g2.symm]
    exact g3
  · rw [upd_ne h2]
    exact g5 b h1 h2
theorem sc_Full : FnScope ["self"] ["self"] (defScope s_Full_init) := ⟨rfl, rfl, rfl, by decide +kernel, rfl, by decide +kernel, by decide +kernel⟩
theorem ok_Full {C CB fB : Addr} {fdB : FuncData} {psB : List Str} (F : Fd K "__init__" "Full.__init__" s_Full_init f fd) (T : OexC K C) (nC : PySem.W.findIn K (.ref C) "called" = some none) (TB : ClsF K CB "__init__" fB) (FB : FnOk P w K mg base (L2.CX P w) 1 fB fdB psB (spBase K)) (bB : Binds K fdB psB []) (gB : mg "TraitError" = some (.ref CB)) :
    FnOk P w K mg base (L2.CX P w) 2 f fd ["self"] (spErr C "Full" []) := by
  refine F.ok sc_Full (fun vs H Q E h => ?_) (fun cdv A outer s H vs Q E hr h => ⟨_, pbw, ?_⟩)
  · obtain ⟨a, ws, rfl, hl, _⟩ := h
    rw [List.length_eq_zero_iff.mp hl]
    rfl
  obtain ⟨a, ws, rfl, hl, ha, k⟩ := h
  have hw : ws = [] := List.length_eq_zero_iff.mp hl
  subst hw
  refine wb_exprW (we_clsCall (W := fun _ _ _ _ => False) takes0 TB FB bB gB hr (wa_of (pa_cons (pv 0) (pa_cons pe_str pa_nil)) ⟨_, rfl, a, C, _, rfl, T, nC, ha, fun dx H1 g => ?_⟩))
  exact wb_nil (k dx H1 g)
theorem sc_Forked : FnScope ["self", "one", "other"] ["self", "one", "other"] (defScope s_Forked_init) := ⟨rfl, rfl, rfl, by decide +kernel, rfl, by decide +kernel, by decide +kernel⟩
theorem ok_Forked {C CB fB : Addr} {fdB : FuncData} {psB : List Str} (F : Fd K "__init__" "Forked.__init__" s_Forked_init f fd) (T : OexC K C) (nC : PySem.W.findIn K (.ref C) "called" = some none) (n0 : PySem.W.findIn K (.ref C) "one" = some none) (n1 : PySem.W.findIn K (.ref C) "other" = some none) (TB : ClsF K CB "__init__" fB) (FB : FnOk P w K mg base (L2.CX P w) 1 fB fdB psB (spBase K)) (bB : Binds K fdB psB []) (gB : mg "TraitError" = some (.ref CB)) :
    FnOk P w K mg base (L2.CX P w) 2 f fd ["self", "one", "other"] (spErr C "Forked" ["one", "other"]) := by
  refine F.ok sc_Forked (fun vs H Q E h => ?_) (fun cdv A outer s H vs Q E hr h => ⟨_, pbw, ?_⟩)
  · obtain ⟨a, ws, rfl, hl, _⟩ := h
    match ws, hl with
    | [v, u], _ => rfl
  obtain ⟨a, ws, rfl, hl, ha, k⟩ := h
  obtain ⟨v, u, rfl⟩ : ∃ v u, ws = [v, u] := by
    match ws, hl with
    | [v, u], _ => exact ⟨v, u, rfl⟩
  refine wb_exprW (we_clsCall (W := fun _ _ _ _ => False) takes0 TB FB bB gB hr (wa_of (pa_cons (pv 0) (pa_cons pe_str pa_nil)) ⟨_, rfl, a, C, _, rfl, T, nC, ha, fun dx H1 g => ?_⟩))
  obtain ⟨g1, g2, g3, g4, g5⟩ := g
  refine wb_cons (ws_of (ps_ost (pv 0) (pv 1)) ⟨_, rfl, _, rfl, a, C, rfl, T, n0, .inr ⟨dx, _, g3, g4, (show 1 ≤ 900 by decide), ?_⟩⟩)
  refine wb_one (ws_of (ps_ost (pv 0) (pv 2)) ⟨_, rfl, _, rfl, a, C, rfl, T, n1, .inr ⟨dx, _, (by rw [upd_ne g2.symm]; exact g3), upd_same, (show 2 ≤ 900 by decide), ?_⟩⟩)
  refine k dx _ ⟨g1, g2, ?_, upd_same, fun b h1 h2 => ?_⟩
  · rw [upd_ne g2.symm, upd_ne g2.symm]
    exact g3
  · rw [upd_ne h2, upd_ne h2]
    exact g5 b h1 h2
theorem sc_Twice : FnScope ["self", "room"] ["self", "room"] (defScope s_Twice_init) := ⟨rfl, rfl, rfl, by decide +kernel, rfl, by decide +kernel, by decide +kernel⟩
theorem ok_Twice {C CB fB : Addr} {fdB : FuncData} {psB : List Str} (F : Fd K "__init__" "Twice.__init__" s_Twice_init f fd) (T : OexC K C) (nC : PySem.W.findIn K (.ref C) "called" = some none) (n0 : PySem.W.findIn K (.ref C) "room" = some none) (TB : ClsF K CB "__init__" fB) (FB : FnOk P w K mg base (L2.CX P w) 1 fB fdB psB (spBase K)) (bB : Binds K fdB psB []) (gB : mg "TraitError" = some (.ref CB)) :
    FnOk P w K mg base (L2.CX P w) 2 f fd ["self", "room"] (spErr C "Twice" ["room"]) := by
  refine F.ok sc_Twice (fun vs H Q E h => ?_) (fun cdv A outer s H vs Q E hr h => ⟨_, pbw, ?_⟩)
  · obtain ⟨a, ws, rfl, hl, _⟩ := h
    obtain ⟨v, rfl⟩ := List.length_eq_one_iff.mp hl
    rfl
  obtain ⟨a, ws, rfl, hl, ha, k⟩ := h
  obtain ⟨v, rfl⟩ := List.length_eq_one_iff.mp hl
  refine wb_exprW (we_clsCall (W := fun _ _ _ _ => False) takes0 TB FB bB gB hr (wa_of (pa_cons (pv 0) (pa_cons pe_str pa_nil)) ⟨_, rfl, a, C, _, rfl, T, nC, ha, fun dx H1 g => ?_⟩))
  obtain ⟨g1, g2, g3, g4, g5⟩ := g
  refine wb_one (ws_of (ps_ost (pv 0) (pv 1)) ⟨_, rfl, _, rfl, a, C, rfl, T, n0, .inr ⟨dx, _, g3, g4, (show 1 ≤ 900 by decide), ?_⟩⟩)
  refine k dx _ ⟨g1, g2, ?_, upd_same, fun b h1 h2 => ?_⟩
  · rw [upd_ne g2.symm]
    exact g3
  · rw [upd_ne h2]
    exact g5 b h1 h2
theorem sc_Strange : FnScope ["self", "room"] ["self", "room"] (defScope s_Strange_init) := ⟨rfl, rfl, rfl, by decide +kernel, rfl, by decide +kernel, by decide +kernel⟩
theorem ok_Strange {C CB fB : Addr} {fdB : FuncData} {psB : List Str} (F : Fd K "__init__" "Strange.__init__" s_Strange_init f fd) (T : OexC K C) (nC : PySem.W.findIn K (.ref C) "called" = some none) (n0 : PySem.W.findIn K (.ref C) "room" = some none) (TB : ClsF K CB "__init__" fB) (FB : FnOk P w K mg base (L2.CX P w) 1 fB fdB psB (spBase K)) (bB : Binds K fdB psB []) (gB : mg "TraitError" = some (.ref CB)) :
    FnOk P w K mg base (L2.CX P w) 2 f fd ["self", "room"] (spErr C "Strange" ["room"]) := by
  refine F.ok sc_Strange (fun vs H Q E h => ?_) (fun cdv A outer s H vs Q E hr h => ⟨_, pbw, ?_⟩)
  · obtain ⟨a, ws, rfl, hl, _⟩ := h
    obtain ⟨v, rfl⟩ := List.length_eq_one_iff.mp hl
    rfl
  obtain ⟨a, ws, rfl, hl, ha, k⟩ := h
  obtain ⟨v, rfl⟩ := List.length_eq_one_iff.mp hl
  refine wb_exprW (we_clsCall (W := fun _ _ _ _ => False) takes0 TB FB bB gB hr (wa_of (pa_cons (pv 0) (pa_cons pe_str pa_nil)) ⟨_, rfl, a, C, _, rfl, T, nC, ha, fun dx H1 g => ?_⟩))
  obtain ⟨g1, g2, g3, g4, g5⟩ := g
  refine wb_one (ws_of (ps_ost (pv 0) (pv 1)) ⟨_, rfl, _, rfl, a, C, rfl, T, n0, .inr ⟨dx, _, g3, g4, (show 1 ≤ 900 by decide), ?_⟩⟩)
  refine k dx _ ⟨g1, g2, ?_, upd_same, fun b h1 h2 => ?_⟩
  · rw [upd_ne g2.symm]
    exact g3
  · rw [upd_ne h2]
    exact g5 b h1 h2
theorem sc_Wider : FnScope ["self", "room"] ["self", "room"] (defScope s_Wider_init) := ⟨rfl, rfl, rfl, by decide +kernel, rfl, by decide +kernel, by decide +kernel⟩
theorem ok_Wider {C CB fB : Addr} {fdB : FuncData} {psB : List Str} (F : Fd K "__init__" "Wider.__init__" s_Wider_init f fd) (T : OexC K C) (nC : PySem.W.findIn K (.ref C) "called" = some none) (n0 : PySem.W.findIn K (.ref C) "room" = some none) (TB : ClsF K CB "__init__" fB) (FB : FnOk P w K mg base (L2.CX P w) 1 fB fdB psB (spBase K)) (bB : Binds K fdB psB []) (gB : mg "TraitError" = some (.ref CB)) :
    FnOk P w K mg base (L2.CX P w) 2 f fd ["self", "room"] (spErr C "Wider" ["room"]) := by
  refine F.ok sc_Wider (fun vs H Q E h => ?_) (fun cdv A outer s H vs Q E hr h => ⟨_, pbw, ?_⟩)
  · obtain ⟨a, ws, rfl, hl, _⟩ := h
    obtain ⟨v, rfl⟩ := List.length_eq_one_iff.mp hl
    rfl
  obtain ⟨a, ws, rfl, hl, ha, k⟩ := h
  obtain ⟨v, rfl⟩ := List.length_eq_one_iff.mp hl
  refine wb_exprW (we_clsCall (W := fun _ _ _ _ => False) takes0 TB FB bB gB hr (wa_of (pa_cons (pv 0) (pa_cons pe_str pa_nil)) ⟨_, rfl, a, C, _, rfl, T, nC, ha, fun dx H1 g => ?_⟩))
  obtain ⟨g1, g2, g3, g4, g5⟩ := g
  refine wb_one (ws_of (ps_ost (pv 0) (pv 1)) ⟨_, rfl, _, rfl, a, C, rfl, T, n0, .inr ⟨dx, _, g3, g4, (show 1 ≤ 900 by decide), ?_⟩⟩)
  refine k dx _ ⟨g1, g2, ?_, upd_same, fun b h1 h2 => ?_⟩
  · rw [upd_ne g2.symm]
    exact g3
  · rw [upd_ne h2]
    exact g5 b h1 h2
theorem sc_NoFit : FnScope ["self", "room"] ["self", "room"] (defScope s_NoFit_init) := ⟨rfl, rfl, rfl, by decide +kernel, rfl, by decide +kernel, by decide +kernel⟩
theorem ok_NoFit {C CB fB : Addr} {fdB : FuncData} {psB : List Str} (F : Fd K "__init__" "NoFit.__init__" s_NoFit_init f fd) (T : OexC K C) (nC : PySem.W.findIn K (.ref C) "called" = some none) (n0 : PySem.W.findIn K (.ref C) "room" = some none) (TB : ClsF K CB "__init__" fB) (FB : FnOk P w K mg base (L2.CX P w) 1 fB fdB psB (spBase K)) (bB : Binds K fdB psB []) (gB : mg "TraitError" = some (.ref CB)) :
    FnOk P w K mg base (L2.CX P w) 2 f fd ["self", "room"] (spErr C "NoFit" ["room"]) := by
  refine F.ok sc_NoFit (fun vs H Q E h => ?_) (fun cdv A outer s H vs Q E hr h => ⟨_, pbw, ?_⟩)
  · obtain ⟨a, ws, rfl, hl, _⟩ := h
    obtain ⟨v, rfl⟩ := List.length_eq_one_iff.mp hl
    rfl
  obtain ⟨a, ws, rfl, hl, ha, k⟩ := h
  obtain ⟨v, rfl⟩ := List.length_eq_one_iff.mp hl
  refine wb_exprW (we_clsCall (W := fun _ _ _ _ => False) takes0 TB FB bB gB hr (wa_of (pa_cons (pv 0) (pa_cons pe_str pa_nil)) ⟨_, rfl, a, C, _, rfl, T, nC, ha, fun dx H1 g => ?_⟩))
  obtain ⟨g1, g2, g3, g4, g5⟩ := g
  refine wb_one (ws_of (ps_ost (pv 0) (pv 1)) ⟨_, rfl, _, rfl, a, C, rfl, T, n0, .inr ⟨dx, _, g3, g4, (show 1 ≤ 900 by decide), ?_⟩⟩)
  refine k dx _ ⟨g1, g2, ?_, upd_same, fun b h1 h2 => ?_⟩
  · rw [upd_ne g2.symm]
    exact g3
  · rw [upd_ne h2]
    exact g5 b h1 h2
theorem sc_Ring : FnScope ["self", "name"] ["self", "name"] (defScope s_Ring_init) := ⟨rfl, rfl, rfl, by decide +kernel, rfl, by decide +kernel, by decide +kernel⟩
theorem ok_Ring {C CB fB : Addr} {fdB : FuncData} {psB : List Str} (F : Fd K "__init__" "Ring.__init__" s_Ring_init f fd) (T : OexC K C) (nC : PySem.W.findIn K (.ref C) "called" = some none) (n0 : PySem.W.findIn K (.ref C) "name" = some none) (TB : ClsF K CB "__init__" fB) (FB : FnOk P w K mg base (L2.CX P w) 1 fB fdB psB (spBase K)) (bB : Binds K fdB psB []) (gB : mg "TraitError" = some (.ref CB)) :
    FnOk P w K mg base (L2.CX P w) 2 f fd ["self", "name"] (spErr C "Ring" ["name"]) := by
  refine F.ok sc_Ring (fun vs H Q E h => ?_) (fun cdv A outer s H vs Q E hr h => ⟨_, pbw, ?_⟩)
  · obtain ⟨a, ws, rfl, hl, _⟩ := h
    obtain ⟨v, rfl⟩ := List.length_eq_one_iff.mp hl
    rfl
  obtain ⟨a, ws, rfl, hl, ha, k⟩ := h
  obtain ⟨v, rfl⟩ := List.length_eq_one_iff.mp hl
  refine wb_exprW (we_clsCall (W := fun _ _ _ _ => False) takes0 TB FB bB gB hr (wa_of (pa_cons (pv 0) (pa_cons pe_str pa_nil)) ⟨_, rfl, a, C, _, rfl, T, nC, ha, fun dx H1 g => ?_⟩))
  obtain ⟨g1, g2, g3, g4, g5⟩ := g
  refine wb_one (ws_of (ps_ost (pv 0) (pv 1)) ⟨_, rfl, _, rfl, a, C, rfl, T, n0, .inr ⟨dx, _, g3, g4, (show 1 ≤ 900 by decide), ?_⟩⟩)
  refine k dx _ ⟨g1, g2, ?_, upd_same, fun b h1 h2 => ?_⟩
  · rw [upd_ne g2.symm]
    exact g3
  · rw [upd_ne h2]
    exact g5 b h1 h2
theorem sc_BadName : FnScope ["self", "name"] ["self", "name"] (defScope s_BadName_init) := ⟨rfl, rfl, rfl, by decide +kernel, rfl, by decide +kernel, by decide +kernel⟩
theorem ok_BadName {C CB fB : Addr} {fdB : FuncData} {psB : List Str} (F : Fd K "__init__" "BadName.__init__" s_BadName_init f fd) (T : OexC K C) (nC : PySem.W.findIn K (.ref C) "called" = some none) (n0 : PySem.W.findIn K (.ref C) "name" = some none) (TB : ClsF K CB "__init__" fB) (FB : FnOk P w K mg base (L2.CX P w) 1 fB fdB psB (spBase K)) (bB : Binds K fdB psB []) (gB : mg "TraitError" = some (.ref CB)) :
    FnOk P w K mg base (L2.CX P w) 2 f fd ["self", "name"] (spErr C "BadName" ["name"]) := by
  refine F.ok sc_BadName (fun vs H Q E h => ?_) (fun cdv A outer s H vs Q E hr h => ⟨_, pbw, ?_⟩)
  · obtain ⟨a, ws, rfl, hl, _⟩ := h
    obtain ⟨v, rfl⟩ := List.length_eq_one_iff.mp hl
    rfl
  obtain ⟨a, ws, rfl, hl, ha, k⟩ := h
  obtain ⟨v, rfl⟩ := List.length_eq_one_iff.mp hl
  refine wb_exprW (we_clsCall (W := fun _ _ _ _ => False) takes0 TB FB bB gB hr (wa_of (pa_cons (pv 0) (pa_cons pe_str pa_nil)) ⟨_, rfl, a, C, _, rfl, T, nC, ha, fun dx H1 g => ?_⟩))
  obtain ⟨g1, g2, g3, g4, g5⟩ := g
  refine wb_one (ws_of (ps_ost (pv 0) (pv 1)) ⟨_, rfl, _, rfl, a, C, rfl, T, n0, .inr ⟨dx, _, g3, g4, (show 1 ≤ 900 by decide), ?_⟩⟩)
  refine k dx _ ⟨g1, g2, ?_, upd_same, fun b h1 h2 => ?_⟩
  · rw [upd_ne g2.symm]
    exact g3
  · rw [upd_ne h2]
    exact g5 b h1 h2
theorem sc_BadParts : FnScope ["self"] ["self"] (defScope s_BadParts_init) := ⟨rfl, rfl, rfl, by decide +kernel, rfl, by decide +kernel, by decide +kernel⟩
theorem ok_BadParts {C CB fB : Addr} {fdB : FuncData} {psB : List Str} (F : Fd K "__init__" "BadParts.__init__" s_BadParts_init f fd) (T : OexC K C) (nC : PySem.W.findIn K (.ref C) "called" = some none) (TB : ClsF K CB "__init__" fB) (FB : FnOk P w K mg base (L2.CX P w) 1 fB fdB psB (spBase K)) (bB : Binds K fdB psB []) (gB : mg "TraitError" = some (.ref CB)) :
    FnOk P w K mg base (L2.CX P w) 2 f fd ["self"] (spErr C "BadParts" []) := by
  refine F.ok sc_BadParts (fun vs H Q E h => ?_) (fun cdv A outer s H vs Q E hr h => ⟨_, pbw, ?_⟩)
  · obtain ⟨a, ws, rfl, hl, _⟩ := h
    rw [List.length_eq_zero_iff.mp hl]
    rfl
  obtain ⟨a, ws, rfl, hl, ha, k⟩ := h
  have hw : ws = [] := List.length_eq_zero_iff.mp hl
  subst hw
  refine wb_exprW (we_clsCall (W := fun _ _ _ _ => False) takes0 TB FB bB gB hr (wa_of (pa_cons (pv 0) (pa_cons pe_str pa_nil)) ⟨_, rfl, a, C, _, rfl, T, nC, ha, fun dx H1 g => ?_⟩))
  exact wb_nil (k dx H1 g)
end
/-- an error class, its name, its fields -/
structure Er (P : Program) (w : World) (K : PySem.W.Frag) (mg : Str → Option Value) (base : Heap) (x : Str) (fs : List Str) (k : Nat) (C : Addr) : Prop where
  T : OexC K C
  g : mg x = some (.ref C)
  i : ∃ fI fd ps, FnOk P w K mg base (L2.CX P w) k fI fd ps (spErr C x fs) ∧ PySem.W.findIn K (.ref C) "__init__" = some (some (.ref fI)) ∧ PySem.W.typeIn K (.ref fI) = some (.type "function") ∧ Binds K fd ps []
section
variable {X : Cx} {W : WX} {M : List Addr} {σ : L2.St} {H H' : Hp} {e a b : Expr} {es : List Expr} {pos p pos2 : Pos} {x m : Str} {fs : List Str} {k : Nat} {C : Addr} {D : Ends} {rest : List Stmt} {α β : Type} [Enc α] [Enc β]
/-- raise X(e, ..) -/
theorem wb_raiseW (tk : Takes X W) (hc : X.calm = true) (T : Er X.prog X.w X.K X.mg X.base x fs k C) (hr : Room (k + 1) X.A)
    (h : WA X (e :: es) σ H fun vs H1 => vs.length = fs.length ∧ vs.length ≤ 1000 ∧ ∀ d H2, H1 d = none → Ex H1 H2 → H2 d = some (.xd ((fs.zip vs).reverse ++ [(("called" : Str), V.str x)])) → W (.ref C) (some d) σ H2) (hg : Gl X x := by rfl)
    (hdb : (x == ("__debug__" : Str)) = false := by decide) (he : starEach (e :: es) X.env = (false, eval e X.env) :: starEach es X.env := by rfl) (hpl : (backTo pos (starEach es X.env)).any (·.1) = false := by rfl) :
    WB X (.Raise (some (.Call (.Name x p) (e :: es) [] pos)) none pos2 :: rest) D σ H := by
  obtain ⟨fI, fd, ps, F, iC, tI, hb⟩ := T.i
  refine wb_cons (ws_of (ps_raise hc tk (pmk_oex T.T iC tI F hr hb .nil passL hg T.g paw hdb he hpl)) ?_)
  show WA X (e :: es) σ H _
  intro pos pins s I
  refine thn (h pos pins s I) fun us s' ⟨vs, H1, I1, r1, hl, hz, q⟩ => ⟨vs, H1, I1, r1, hz, fun a ha => ?_⟩
  refine ⟨a, vs, by rw [List.append_nil], hl, upd_same, fun dx H2 g => ⟨rfl, dx, _, g.2.2.1, g.2.2.2.1, ?_, ?_⟩⟩
  · have z := g.1
    rw [upd_ne g.2.1] at z
    exact z
  · have hd : H1 dx = none := by
      have z := g.1
      rw [upd_ne g.2.1] at z
      exact z
    refine q dx _ hd (fun b o hbo => ?_) upd_same
    have h1 : b ≠ a := ne_of_none hbo ha
    have h2 : b ≠ dx := ne_of_none hbo hd
    rw [upd_ne h2, del_ne h1, g.2.2.2.2 b h1 h2, upd_ne h1]
    exact hbo
/-- raise X(e) -/
theorem wb_raise1 {y : α} {f : Str} (tk : Takes X W) (hc : X.calm = true) (T : Er X.prog X.w X.K X.mg X.base x [f] k C) (hr : Room (k + 1) X.A) (d : Dom M H) (h : VE X M σ H e y)
    (q : ∀ v d H2, H d = none → Ex H H2 → den X.K (hide M H2) v y → H2 d = some (.xd [(f, v), (("called" : Str), V.str x)]) → W (.ref C) (some d) σ H2) (hg : Gl X x := by rfl)
    (hdb : (x == ("__debug__" : Str)) = false := by decide) (he : starEach [e] X.env = (false, eval e X.env) :: starEach [] X.env := by rfl) (hpl : (backTo pos (starEach [] X.env)).any (·.1) = false := by rfl) :
    WB X (.Raise (some (.Call (.Name x p) [e] [] pos)) none pos2 :: rest) D σ H :=
  wb_raiseW tk hc T hr (wa_of (pa_cons pw pa_nil he) (h H Ex.rfl' d _ fun v H1 e1 dv => ⟨rfl, (show 1 ≤ 1000 by decide), fun dd H2 hd e2 hx => q v dd H2 (Ex.back e1 hd) (Ex.tr e1 e2) (Enc.mono (Ex.hide e2) dv) hx⟩)) hg hdb he hpl
/-- raise X(a, b) -/
theorem wb_raise2 {y : α} {z : β} {f f' : Str} (tk : Takes X W) (hc : X.calm = true) (T : Er X.prog X.w X.K X.mg X.base x [f, f'] k C) (hr : Room (k + 1) X.A) (d : Dom M H) (h : VE X M σ H a y) (h' : VE X M σ H b z)
    (q : ∀ v u d H2, H d = none → Ex H H2 → den X.K (hide M H2) v y → den X.K (hide M H2) u z → H2 d = some (.xd [(f', u), (f, v), (("called" : Str), V.str x)]) → W (.ref C) (some d) σ H2) (hg : Gl X x := by rfl)
    (hdb : (x == ("__debug__" : Str)) = false := by decide) (he : starEach [a, b] X.env = (false, eval a X.env) :: starEach [b] X.env := by rfl) (he2 : starEach [b] X.env = (false, eval b X.env) :: starEach [] X.env := by rfl) (hpl : (backTo pos (starEach [b] X.env)).any (·.1) = false := by rfl) :
    WB X (.Raise (some (.Call (.Name x p) [a, b] [] pos)) none pos2 :: rest) D σ H :=
  wb_raiseW tk hc T hr (wa_of (pa_cons pw (pa_cons pw pa_nil he2) he) (two h h' Ex.rfl' d fun v u H1 e1 d1 dv du => ⟨rfl, (show 2 ≤ 1000 by decide), fun dd H2 hd e2 hx => q v u dd H2 (Ex.back e1 hd) (Ex.tr e1 e2) (Enc.mono (Ex.hide e2) dv) (Enc.mono (Ex.hide e2) du) hx⟩)) hg hdb he hpl
end
end Tm
set_option maxHeartbeats 4000000
namespace Tm
open PySem PySem.Spec PyProof.Rows L2 Pl
open Enc (den)
/-! ### try with several clauses, of one class or several, each with its name -/
theorem flyZ_keeps {B : Heap} {l : List Env} {a : Addr} {Z : Obj → Prop} {h h' : Heap} (x : HandSPX.FlyingZ B l a Z h) (k : ∀ b o, h.get? b = some o → h'.get? b = some o) : HandSPX.FlyingZ B l a Z h' := by
  obtain ⟨x1, x2, x3, oe, vs, T, oT, ts, y1, y2, y3, y4, y5, y6, y7, y8⟩ := x
  exact ⟨fun b o q => k b o (x1 b o q), x2, x3.of_keeps fun b o q _ => ⟨o, k b o q, rfl⟩, oe, vs, T, oT, ts, k _ _ y1, y2, y3, y4, y5, y6, k _ _ y7, y8⟩
/-- the test of a clause: which classes it names -/
def CT (X : Cx) (t : Expr) (cs : List Value) : Prop := ∀ (a : Addr) (pn pins : List (Addr × Obj)) (σ : L2.St) (H : Hp) (s : Shared) (cls : Value) (b : Bool) (Q : Bool → Shared → Prop) (E : Value → Shared → Prop), Inv (X.suite a pn) pins σ H s →
  PySem.W.Looks (model X.prog X.w) s.heap (typeOf (.ref a)) cls → PySem.W.exmAny X.K cls cs = some b → (∀ h', (∀ q o, s.heap.get? q = some o → h'.get? q = some o) → Q b { s with heap := h' }) →
  wpAny (model X.prog X.w) (X.A.mark (some (.ref a))) (eval t X.env) (fun c s₁ => wpAny (model X.prog X.w) (X.A.mark (some (.ref a))) (excMatches (.ref a) c) Q E s₁) E s
section
variable {X : Cx} {x x1 x2 x3 x4 : Str} {c c1 c2 c3 c4 : Value} {np p1 p2 p3 p4 tp : Pos} {kk : Nat}
theorem ld_names {a : Addr} {pn pins : List (Addr × Obj)} {σ : L2.St} {H : Hp} {s : Shared} {Q : Value → Shared → Prop} {E : Value → Shared → Prop} (hc : Names X x c) (I : Inv (X.suite a pn) pins σ H s) (q : Q c s) :
    wpAny (model X.prog X.w) (X.A.mark (some (.ref a))) (eval (.Name x np) X.env) Q E s := by
  obtain ⟨g1, g2, g3 | ⟨g3, g4, g5⟩⟩ := hc
  · exact ld_glob (X := X.suite a pn) I g1 g3 q g2
  · exact ld_blt (X := X.suite a pn) I g1 g3 g4 q g5 g2
theorem ct_one (hc : Names X x c) : CT X (.Name x np) [c] := fun a pn pins σ H s cls b Q E I lt hx q => by
  obtain ⟨b1, d1, e1, e2, e3⟩ := PySem.W.exmAny_cons hx
  have e4 : some false = some d1 := e2
  cases e4
  rw [Bool.or_false] at e3
  subst e3
  exact ld_names hc I ((PySem.W.exm_one (M := model X.prog X.w) I.kIn lt e1).here (q s.heap fun _ _ z => z))
theorem ct_two (h1 : Names X x1 c1) (h2 : Names X x2 c2) : CT X (.Tuple [.Name x1 p1, .Name x2 p2] kk tp) [c1, c2] := fun a pn pins σ H s cls b Q E I lt hx q => by
  refine wpAny_Tuple (wpAny_items_cons (ld_names h1 I (wpAny_items_cons (ld_names h2 I (wpAny_items_nil ⟨by size_fits, ?_⟩)))))
  have kp : ∀ b o, s.heap.get? b = some o → (s.heap.push { cls := .type "tuple", data := .seq [c1, c2].toArray }).get? b = some o := fun _ _ z => Heap.get?_push_of_some _ z
  exact (PySem.W.exm_tup2 (M := model X.prog X.w) (I.kIn.keeps kp) (lt.keeps kp) (Heap.get?_push_size s.heap rfl) hx).here (q _ kp)
theorem ct_three (h1 : Names X x1 c1) (h2 : Names X x2 c2) (h3 : Names X x3 c3) : CT X (.Tuple [.Name x1 p1, .Name x2 p2, .Name x3 p3] kk tp) [c1, c2, c3] := fun a pn pins σ H s cls b Q E I lt hx q => by
  refine wpAny_Tuple (wpAny_items_cons (ld_names h1 I (wpAny_items_cons (ld_names h2 I (wpAny_items_cons (ld_names h3 I (wpAny_items_nil ⟨by size_fits, ?_⟩)))))))
  have kp : ∀ b o, s.heap.get? b = some o → (s.heap.push { cls := .type "tuple", data := .seq [c1, c2, c3].toArray }).get? b = some o := fun _ _ z => Heap.get?_push_of_some _ z
  exact (PySem.W.exm_tup3 (M := model X.prog X.w) (I.kIn.keeps kp) (lt.keeps kp) (Heap.get?_push_size s.heap rfl) hx).here (q _ kp)
theorem ct_four (h1 : Names X x1 c1) (h2 : Names X x2 c2) (h3 : Names X x3 c3) (h4 : Names X x4 c4) : CT X (.Tuple [.Name x1 p1, .Name x2 p2, .Name x3 p3, .Name x4 p4] kk tp) [c1, c2, c3, c4] := fun a pn pins σ H s cls b Q E I lt hx q => by
  refine wpAny_Tuple (wpAny_items_cons (ld_names h1 I (wpAny_items_cons (ld_names h2 I (wpAny_items_cons (ld_names h3 I (wpAny_items_cons (ld_names h4 I (wpAny_items_nil ⟨by size_fits, ?_⟩)))))))))
  have kp : ∀ b o, s.heap.get? b = some o → (s.heap.push { cls := .type "tuple", data := .seq [c1, c2, c3, c4].toArray }).get? b = some o := fun _ _ z => Heap.get?_push_of_some _ z
  exact (PySem.W.exm_tup4 (M := model X.prog X.w) (I.kIn.keeps kp) (lt.keeps kp) (Heap.get?_push_size s.heap rfl) hx).here (q _ kp)
end
/-- the ends behind a suite whose name stands in slot i -/
def offEnds (i : Nat) (D : Ends) : Ends := { nx := fun σ H => D.nx (σ.set i none) H, rt := D.rt, bk := fun σ H => D.bk (σ.set i none) H, ct := fun σ H => D.ct (σ.set i none) H }
/-- what the clauses wish -/
def wTry (X : Cx) (i : Nat) (Wout : WX) (D : Ends) : List (List Value × List Stmt) → WX
  | [] => Wout
  | (cs, bd) :: r => fun cls d σ H => ∃ b, PySem.W.exmAny X.K cls cs = some b ∧ (b = true → ∀ a oe pn, H a = none → Zc cls d oe → (∃ vs, oe.data = .fields vs) → WB (X.suite a ((a, oe) :: pn)) bd (offEnds i D) (σ.set i (some (.ref a))) H) ∧
      (b = false → wTry X i Wout D r cls d σ H)
inductive HdA (X : Cx) (n : Str) : List ExceptHandler → List (List Value × List Stmt) → Prop
  | nil : HdA X n [] []
  | cons {t : Expr} {cs : List Value} {b₀ : Stmt} {bd : List Stmt} {q : Pos} {hds : List ExceptHandler} {l : List (List Value × List Stmt)} : CT X t cs → HdA X n hds l → HdA X n (.ExceptHandler (some t) (some n) (b₀ :: bd) q :: hds) ((cs, b₀ :: bd) :: l)
section
variable {X : Cx} {n : Str} {i : Nat} {body : List Stmt} {h₀ : ExceptHandler} {hds : List ExceptHandler} {l : List (List Value × List Stmt)} {pos : Pos} {Wout : WX} {D : Ends} {σ : L2.St} {H : Hp}
theorem ws_try (hs : X.stack = X.env :: X.outer) (hf : X.env.frame = some X.env.locals) (hN : X.N.Nodup) (hi : X.N[i]? = some n) (hln : X.env.kindOf n = some .local) (tk : Takes X Wout) (hh : HdA X n (h₀ :: hds) l)
    (h : ∀ pn xe, Takes (X.tr pn xe) (wTry X i Wout D l) → PassesOwn (model X.prog X.w) X.A X.env xe → WB (X.tr pn xe) body D σ H) : WS X (.Try body (h₀ :: hds) [] [] pos) D σ H := by
  intro pins s I
  have ok := I.ok
  have fr : X.A.frames = some (X.env :: X.outer) := by
    rw [ok.frames, hs]
  refine wpAny_Try_except (wpAny_mono (h (X.pn ++ pins) (fun e s₁ => wpAny (model X.prog X.w) X.A (noteFrame e X.env) (fun _ s₂ => wpAny (model X.prog X.w) X.A (setFlight e none) (fun _ s₃ =>
    wpAny (model X.prog X.w) X.A (handleBy e X.env (h₀ :: hds)) (SP X pins D) X.xe s₃) X.xe s₂) X.xe s₁) (fun u t xx => ?_) PassesOwn.looking [] s (I.toTry _)) (fun f t sp => ?_) (fun _ _ z => z))
  · obtain ⟨a, B, sI, ps', τ, G, cls, d, rfl, J0, nb, up, sky, na, eo, ag, wish⟩ := xx
    have J : Inv X pins τ G sI := J0.ofTry ok
    rw [show (X.tr (X.pn ++ pins) _).stack = X.stack from rfl, hs] at sky
    show wpAny (model X.prog X.w) X.A (noteFrame (.ref a) X.env) _ _ _
    refine Sky.land Zc.steady fr hf sky fun g3 fly up3 => ?_
    -- where the error stands
    have apart : ∀ {g : Heap}, HandSPX.FlyingZ B (X.env :: X.outer) a (Zc cls d) g → a ∉ frs (X.env :: X.outer) := fun {g} fl hm => by
      obtain ⟨o1, v1, he, _, hd⟩ := fl.there
      obtain ⟨_, o2, e2, nf⟩ := fl.2.2.1.mem hm
      rw [he] at e2
      cases e2
      exact nf _ hd
    have nL : a ≠ X.env.locals := fun z => apart fly (List.mem_filterMap.mpr ⟨X.env, List.mem_cons_self, by rw [hf, z]⟩)
    have nF : a ∉ X.fs := fun hm => by
      obtain ⟨e, he, q⟩ := List.mem_filterMap.mp hm
      exact apart fly (List.mem_filterMap.mpr ⟨e, List.mem_cons_of_mem _ he, q⟩)
    have go : ∀ {hs' : List ExceptHandler} {l' : List (List Value × List Stmt)}, HdA X n hs' l' → wTry X i Wout D l' cls d τ G → ∀ g : Heap, HandSPX.FlyingZ B (X.env :: X.outer) a (Zc cls d) g → sI.heap.UpToSlots g →
        wpAny (model X.prog X.w) X.A (handleBy (.ref a) X.env hs') (SP X pins D) X.xe { t with heap := g } := by
      intro hs' l' hk
      induction hk with
      | nil =>
        intro wi g fl ug
        refine wpAny_handleBy_nil ?_
        obtain ⟨_, _, _, o1, v1, T, oT, tvs, he, _, hd, h1, _⟩ := id fl
        unfold PySem.passOn
        refine wpAny_bind (wpAny_field he hd h1 ?_)
        rw [if_neg (show ¬ ((Value.ref T == Value.none) = true) from by simp)]
        have fin : wpAny (model X.prog X.w) X.A (setFlight (.ref a) X.env.frame) (fun _ s4 => wpAny (model X.prog X.w) X.A (throw (.ref a) : Sem Flow) (SP X pins D) X.xe s4) X.xe { t with heap := g } := by
          rw [hf]
          exact HandSPX.setFlight_upZ fl fun g4 held up4 => wpAny_throw (tk _ _ ⟨a, B, sI, pins, τ, G, cls, d, rfl, J, nb, ug.trans up4, .inr (.inr (by rw [hs]; exact held)), na, eo, ag, wi⟩)
        first
          | exact wpAny_bind (wpAny_pure (wpAny_bind fin))
          | exact wpAny_bind fin
      | @cons te cs b₀ bd q hds' l'' ct _ ih =>
        intro wi g fl ug
        obtain ⟨b, hb, yes, no⟩ := wi
        have Jg : Inv X pins τ G { t with heap := g } := J.landed nb fl.1 ug eo ag
        obtain ⟨o1, v1, he, hz, hd⟩ := fl.there
        refine wpAny_handleBy_cons (codeAny_handlers_test ?_) (by intro q; cases q)
        have LT : PySem.W.Looks (model X.prog X.w) g (typeOf (.ref a)) cls := fun A Q E s k q => wpAny_typeOf_ref (k _ _ he) (by rw [hz.1]; exact q)
        refine ct a _ [] τ G { t with heap := g } cls b _ _ (Jg.suite he hd na nL nF) LT hb fun g' kp => ?_
        have fl' := flyZ_keeps fl kp
        have ug' : sI.heap.UpToSlots g' := ug.trans (Heap.UpToSlots.of_keeps kp)
        cases b with
        | false => exact ih (no rfl) g' fl' ug'
        | true =>
          refine codeAny_handlers_suite_as (HandSPX.lands_againZ fl' fun g4 fl4 up4 => ?_)
          have J4 : Inv X pins τ G { t with heap := g4 } := J.landed nb fl4.1 (ug'.trans up4) eo ag
          obtain ⟨o4, v4, he4, hz4, hd4⟩ := fl4.there
          refine store_ok (X := X.suite a ((a, o4) :: (X.pn ++ pins))) (v := .ref a) (J4.suite he4 hd4 na nL nF) hN hi (.inl hln) rfl (fun s5 S5 => ?_) (.inr hln)
          refine wpAny_mono (yes rfl a o4 (X.pn ++ pins) na hz4 ⟨_, hd4⟩ [] s5 S5) (fun f s6 sp => ?_) (fun _ _ z => False.elim z)
          have off : ∀ {σ6 : L2.St} {H6 : Hp} {Q : Shared → Prop}, Inv (X.suite a ((a, o4) :: (X.pn ++ pins))) [] σ6 H6 s6 → (∀ s7, Inv X pins (σ6.set i none) H6 s7 → Q s7) →
              wpAny (model X.prog X.w) X.A (do bindName X.env n .none; unbindBehindTheSuite X.env n q) (fun _ s7 => Q s7) X.xe s6 := fun {σ6 H6 Q} S6 hq => gone_ok (S6.unsuite ok) hN hi hln hq
          cases f with
          | next =>
            obtain ⟨τ6, G6, S6, q6⟩ := sp
            exact off S6 fun s7 J7 => ⟨_, _, J7, q6⟩
          | brk =>
            obtain ⟨τ6, G6, S6, q6⟩ := sp
            exact off S6 fun s7 J7 => ⟨_, _, J7, q6⟩
          | cont =>
            obtain ⟨τ6, G6, S6, q6⟩ := sp
            exact off S6 fun s7 J7 => ⟨_, _, J7, q6⟩
          | ret u =>
            obtain ⟨v6, τ6, G6, S6, r6, q6⟩ := sp
            exact off S6 fun s7 J7 => ⟨_, _, _, J7, r6, q6⟩
    exact go hh wish g3 fly (up.trans up3)
  · cases f with
    | next =>
      obtain ⟨τ, G, J, q⟩ := sp
      exact wpAny_execs_nil ⟨τ, G, J.ofTry ok, q⟩
    | brk =>
      obtain ⟨τ, G, J, q⟩ := sp
      exact ⟨τ, G, J.ofTry ok, q⟩
    | cont =>
      obtain ⟨τ, G, J, q⟩ := sp
      exact ⟨τ, G, J.ofTry ok, q⟩
    | ret u =>
      obtain ⟨v, τ, G, J, r, q⟩ := sp
      exact ⟨v, τ, G, J.ofTry ok, r, q⟩
end
end Tm
set_option maxHeartbeats 4000000
namespace Tm
open PySem PySem.Spec PyProof.Rows L2 Pl
open Enc (den)
/-! ### is_name -/
def letters : Str := "abcdefghijklmnopqrstuvwxyz"
def isName (z : Str) : Bool := (decide ((1 : Int) ≤ (z.length : Int)) && decide ((z.length : Int) ≤ 8)) && ((signs z).map fun s => decide ((s.cps.getD 0 0) ∈ letters.cps.toList)).all id
section
variable {P : Program} {w : World} {K : PySem.W.Frag} {mg : Str → Option Value} {base : Heap} {f : Addr} {fd : FuncData}
abbrev nIsName : List Str := ["text", "sign"]
theorem scIsName : FnScope nIsName ["text"] (defScope s_is_name) := ⟨rfl, rfl, rfl, by decide +kernel, rfl, by decide +kernel, by decide +kernel⟩
theorem sign_mem {z s : Str} (h : s ∈ signs z) : s = ⟨#[s.cps.getD 0 0]⟩ := by
  unfold signs at h
  obtain ⟨c, _, rfl⟩ := List.mem_map.mp h
  rfl
theorem signs_len {z : Str} : (signs z).length = z.length := by
  unfold signs
  rw [List.length_map, Array.length_toList]
  rfl
theorem ok_is_name {tL tM : Tok} (F : Fd K "is_name" "is_name" s_is_name f fd) (hL : mg "LETTERS" = some (.str letters tL)) (hM : mg "MOST_NAME" = some (.int 8 tM)) (hlen : mg "len" = none) (hall : mg "all" = none) :
    FnOk P w K mg base (L2.CX P w) 1 f fd ["text"] (spP1 K (fun z : Str => z.length ≤ 50000) isName) := by
  refine F.ok scIsName (fun vs H Q E h => ?_) (fun cdv A outer s H vs Q E hr h => ⟨_, pbw, ?_⟩)
  · obtain ⟨M, v, a, rfl, _⟩ := h
    rfl
  obtain ⟨M, v, z, rfl, dm, dv, hz, k⟩ := h
  have hz' : z.length ≤ 100000 := by omega
  refine wb_ret dm (ve_and (ve_leLe ve_int (ve_lenS hlen (ve_var 0 rfl dv) hz') (ve_globI hM)) fun _ => ve_one (ve_all hall rfl (ve_lc (j := 1) rfl scIsName.nd (vi_str (ve_var 0 rfl dv)) (by rw [signs_len]; omega) (blkOk_by (N := nIsName) (sc := defScope s_is_name) (by decide +kernel)) fun q s H0 C cl fp H1 v1 x hq e1 d1 e2 hx dx => ?_))) fun u H1 e1 du => k u H1 e1 du
  have dx' : v1 = .str x := dx
  refine (vc_inSign (ch := x.cps.getD 0 0) (ve_var 1 rfl ?_) (ve_globS hL)).ve
  rw [dx', ← sign_mem hx]
  rfl
end
end Tm
set_option maxHeartbeats 4000000
namespace Tm
open PySem PySem.Spec PyProof.Rows L2 Pl
open Enc (den)
/-! ### a table of kinds -/
structure Tab where
  order : List Str
  right : List (Str × List Str)
  spoken : List (Str × Dct Str)
  lets : List (Str × Dct Str)
  uppers : List (Str × KSet)
  homes : List (Str × Str)
  lowest : PTab
structure KA where
  (p dx o r s l u h w m : Addr)
def KA.all (a : KA) : List Addr := [a.o, a.r, a.s, a.l, a.u, a.h, a.w, a.m]
def KA.fs (a : KA) : List (Str × V) := [("order", .ref a.o), ("right", .ref a.r), ("spoken", .ref a.s), ("lets", .ref a.l), ("uppers", .ref a.u), ("homes", .ref a.h), ("lowest", .ref a.w), ("musts", .ref a.m)]
structure KC (K : PySem.W.Frag) (C : Addr) : Prop where
  cl : Cls K C
  no : NoAttr K C "order"
  nr : NoAttr K C "right"
  ns : NoAttr K C "spoken"
  nl : NoAttr K C "lets"
  nu : NoAttr K C "uppers"
  nh : NoAttr K C "homes"
  nw : NoAttr K C "lowest"
  nm : NoAttr K C "musts"
structure KindsAt (C : Addr) (K : PySem.W.Frag) (M : List Addr) (H : Hp) (a : KA) (t : Tab) : Prop where
  hp : H a.p = some (.ins C a.dx a.fs)
  nd : (a.p :: a.all).Nodup
  inM : ∀ x ∈ a.p :: a.all, x ∈ M
  ho : H a.o = some (.lst (t.order.map V.str))
  hr : ∃ kvs, H a.r = some (.dK kvs) ∧ DK K (hide M H) kvs t.right
  hs : ∃ kvs, H a.s = some (.dK kvs) ∧ DK K (hide M H) kvs t.spoken
  hl : ∃ kvs, H a.l = some (.dK kvs) ∧ DK K (hide M H) kvs t.lets
  hu : ∃ kvs, H a.u = some (.dK kvs) ∧ DK K (hide M H) kvs t.uppers
  hh : ∃ kvs, H a.h = some (.dK kvs) ∧ DK K (hide M H) kvs t.homes
  hw : H a.w = some (.dT (ltab t.lowest))
  hm : H a.m = some (.dK [])
section
variable {C : Addr} {K : PySem.W.Frag} {M : List Addr} {H H' : Hp} {a : KA} {t : Tab}
/-- what else changes does not matter -/
theorem KindsAt.keep {F : List Addr} (k : KindsAt C K M H a t) (b : Bt F H H') (hF : ∀ x ∈ F, x ∈ M) (ha : ∀ x ∈ F, x ∉ a.p :: a.all) : KindsAt C K M H' a t := by
  have e : Ex (hide M H) (hide M H') := b.hide hF
  have g : ∀ x ∈ a.p :: a.all, ∀ o, H x = some o → H' x = some o := fun x hx o ho => b x o (fun z => ha x z hx) ho
  have gg : ∀ {β : Type} [Enc β] {x : Addr} {kv : List (Str × β)}, x ∈ a.p :: a.all → (∃ kvs, H x = some (.dK kvs) ∧ DK K (hide M H) kvs kv) → ∃ kvs, H' x = some (.dK kvs) ∧ DK K (hide M H') kvs kv := fun hx ⟨kvs, h1, h2⟩ => ⟨kvs, g _ hx _ h1, DK.mono h2 e⟩
  exact ⟨g _ (by simp) _ k.hp, k.nd, k.inM, g _ (by simp [KA.all]) _ k.ho, gg (by simp [KA.all]) k.hr, gg (by simp [KA.all]) k.hs, gg (by simp [KA.all]) k.hl, gg (by simp [KA.all]) k.hu, gg (by simp [KA.all]) k.hh, g _ (by simp [KA.all]) _ k.hw, g _ (by simp [KA.all]) _ k.hm⟩
theorem KindsAt.ex (k : KindsAt C K M H a t) (e : Ex H H') : KindsAt C K M H' a t := k.keep (F := []) (Bt.ex e) (fun _ h => nomatch h) (fun _ h => nomatch h)
end
section
variable {P : Program} {w : World} {K : PySem.W.Frag} {mg : Str → Option Value} {base : Heap} {f : Addr} {fd : FuncData} {N : List Str} {qual : Str} {scope : Scope} {cd : Value} {A : Around} {outer : List Env} {s : Shared} {H : Hp} {E : XK}
theorem un1 {k : Nat} {A : Around} (r : Room k A) : A.units + 1 < cLine := by have := r.units; omega
theorem takes_cx : Takes (cxOf (L2.CX P w) P w K mg base N qual scope f cd A outer s H E) (fun cls d _ H' => E cls d H') := takes_of rfl rfl rfl rfl
theorem owns_cx : PassesOwn (model P w) (cxOf (L2.CX P w) P w K mg base N qual scope f cd A outer s H E).A (cxOf (L2.CX P w) P w K mg base N qual scope f cd A outer s H E).env (cxOf (L2.CX P w) P w K mg base N qual scope f cd A outer s H E).xe :=
  passes_of (X := cxOf (L2.CX P w) P w K mg base N qual scope f cd A outer s H E) (K := fun e s'' => L2.CX P w outer H s E e s'') (E₁ := _) rfl
end
section
variable {X : Cx} {M : List Addr} {σ : L2.St} {H : Hp} {C : Addr} {a : KA} {t : Tab} {o : Expr} {pos : Pos}
theorem ve_order (c : KC X.K C) (k : KindsAt C X.K M H a t) (h : VE X M σ H o (V.ref a.p)) (hb : attributeBase o "order" X.env (eval o X.env) = eval o X.env := by rfl) : VE X M σ H (.Attribute o "order" pos) (V.ref a.o) := ve_fld h k.hp c.cl c.no rfl hb
theorem ve_right (c : KC X.K C) (k : KindsAt C X.K M H a t) (h : VE X M σ H o (V.ref a.p)) (hb : attributeBase o "right" X.env (eval o X.env) = eval o X.env := by rfl) : VE X M σ H (.Attribute o "right" pos) (V.ref a.r) := ve_fld h k.hp c.cl c.nr rfl hb
theorem ve_spoken (c : KC X.K C) (k : KindsAt C X.K M H a t) (h : VE X M σ H o (V.ref a.p)) (hb : attributeBase o "spoken" X.env (eval o X.env) = eval o X.env := by rfl) : VE X M σ H (.Attribute o "spoken" pos) (V.ref a.s) := ve_fld h k.hp c.cl c.ns rfl hb
theorem ve_lets (c : KC X.K C) (k : KindsAt C X.K M H a t) (h : VE X M σ H o (V.ref a.p)) (hb : attributeBase o "lets" X.env (eval o X.env) = eval o X.env := by rfl) : VE X M σ H (.Attribute o "lets" pos) (V.ref a.l) := ve_fld h k.hp c.cl c.nl rfl hb
theorem ve_uppers (c : KC X.K C) (k : KindsAt C X.K M H a t) (h : VE X M σ H o (V.ref a.p)) (hb : attributeBase o "uppers" X.env (eval o X.env) = eval o X.env := by rfl) : VE X M σ H (.Attribute o "uppers" pos) (V.ref a.u) := ve_fld h k.hp c.cl c.nu rfl hb
theorem ve_homes (c : KC X.K C) (k : KindsAt C X.K M H a t) (h : VE X M σ H o (V.ref a.p)) (hb : attributeBase o "homes" X.env (eval o X.env) = eval o X.env := by rfl) : VE X M σ H (.Attribute o "homes" pos) (V.ref a.h) := ve_fld h k.hp c.cl c.nh rfl hb
theorem ve_lowest (c : KC X.K C) (k : KindsAt C X.K M H a t) (h : VE X M σ H o (V.ref a.p)) (hb : attributeBase o "lowest" X.env (eval o X.env) = eval o X.env := by rfl) : VE X M σ H (.Attribute o "lowest" pos) (V.ref a.w) := ve_fld h k.hp c.cl c.nw rfl hb
theorem ve_musts (c : KC X.K C) (k : KindsAt C X.K M H a t) (h : VE X M σ H o (V.ref a.p)) (hb : attributeBase o "musts" X.env (eval o X.env) = eval o X.env := by rfl) : VE X M σ H (.Attribute o "musts" pos) (V.ref a.m) := ve_fld h k.hp c.cl c.nm rfl hb
end
/-- the table at a, in the heap, as a method's first argument -/
def spNames (C : Addr) (K : PySem.W.Frag) : Sp := fun vs H Q _ => ∃ (M : List Addr) (a : KA) (t : Tab), vs = [.ref a.p] ∧ Dom M H ∧ KindsAt C K M H a t ∧ ∀ u H', Ex H H' → den K (hide M H') u t.order → Q u H'
/-- need: the kind is there -/
def spNeed1 (C : Addr) (K : PySem.W.Frag) : Sp := fun vs H Q _ => ∃ (M : List Addr) (a : KA) (t : Tab) (v : V) (x : Str), vs = [.ref a.p, v] ∧ Dom M H ∧ KindsAt C K M H a t ∧ den K (hide M H) v x ∧ (aGet t.right x).isSome = true ∧ ∀ H', Ex H H' → Q .non H'
/-- the first two kinds of these that would be left without one low -/
def isFork (lw : PTab) (ab : List Str) (x y : Str) : Bool := ltS x y && ((tGet lw x y).isSome && !decide ((tGet lw x y).getD "" ∈ ab))
def forkOf (lw : PTab) (ab : List Str) : Option (Str × Str) := (srt ab).findSome? fun x => (srt ab).findSome? fun y => if isFork lw ab x y = true then some (x, y) else none
def spFork (C CF : Addr) (K : PySem.W.Frag) : Sp := fun vs H Q E => ∃ (M : List Addr) (a : KA) (t : Tab) (v : V) (ab : KSet), vs = [.ref a.p, v] ∧ Dom M H ∧ KindsAt C K M H a t ∧ den K (hide M H) v ab ∧ ab.ks.length < 64 ∧
  (forkOf t.lowest ab.ks = none → ∀ H', Ex H H' → Q .non H') ∧ ∀ x y, forkOf t.lowest ab.ks = some (x, y) → ∀ d H', H d = none → Ex H H' → H' d = some (.xd [("other", .str y), ("one", .str x), ("called", .str "Forked")]) → E (.ref CF) (some d) H'
/-- no musts: nothing goes round -/
def spRound0 (C : Addr) (K : PySem.W.Frag) : Sp := fun vs H Q _ => ∃ (M : List Addr) (a : KA) (t : Tab), vs = [.ref a.p] ∧ Dom M H ∧ KindsAt C K M H a t ∧ ∀ H', Ex H H' → Q (.bl false) H'
section
variable {P : Program} {w : World} {K : PySem.W.Frag} {mg : Str → Option Value} {base : Heap} {f C : Addr} {fd : FuncData}
theorem sc_names : FnScope ["self"] ["self"] (defScope s_Kinds_names) := ⟨rfl, rfl, rfl, by decide +kernel, rfl, by decide +kernel, by decide +kernel⟩
theorem ok_names (F : Fd K "names" "Kinds.names" s_Kinds_names f fd) (c : KC K C) (hlist : mg "list" = none) : FnOk P w K mg base (L2.CX P w) 1 f fd ["self"] (spNames C K) := by
  refine F.ok sc_names (fun vs H Q E h => ?_) (fun cdv A outer s H vs Q E hr h => ⟨_, pbw, ?_⟩)
  · obtain ⟨M, a, t, rfl, _⟩ := h
    rfl
  obtain ⟨M, a, t, rfl, dm, ka, k⟩ := h
  exact wb_ret dm (ve_listM (xs := t.order) hlist (ve_order c ka (ve_raw 0 rfl)) ka.ho (All2.ofMap fun _ _ => rfl)) fun u H1 e1 du => k u H1 e1 du
theorem sc_need : FnScope ["self", "name"] ["self", "name"] (defScope s_Kinds_need) := ⟨rfl, rfl, rfl, by decide +kernel, rfl, by decide +kernel, by decide +kernel⟩
theorem ok_need1 (F : Fd K "need" "Kinds.need" s_Kinds_need f fd) (c : KC K C) : FnOk P w K mg base (L2.CX P w) 1 f fd ["self", "name"] (spNeed1 C K) := by
  refine F.ok sc_need (fun vs H Q E h => ?_) (fun cdv A outer s H vs Q E hr h => ⟨_, pbw, ?_⟩)
  · obtain ⟨M, a, t, v, x, rfl, _⟩ := h
    rfl
  obtain ⟨M, a, t, v, x, rfl, dm, ka, dv, hx, k⟩ := h
  obtain ⟨kvs, h1, h2⟩ := ka.hr
  refine wb_when dm (vc_notInDM (un1 hr) (ve_var 1 rfl dv) (ve_right c ka (ve_raw 0 rfl)) h1 h2).vt (fun hy => ?_) fun hy H1 e1 => wb_nil (k H1 e1)
  rw [hx] at hy
  cases hy
end
end Tm
set_option maxHeartbeats 4000000
namespace Tm
open PySem PySem.Spec PyProof.Rows L2 Pl
open Enc (den)
section
variable {α β : Type} {l : List α} {f : α → Option β} {i : Nat} {x : α} {y : β}
theorem fs_hit (h : (l.take i).findSome? f = none) (hx : l[i]? = some x) (hf : f x = some y) : l.findSome? f = some y := by
  rw [← List.take_append_drop i l, List.findSome?_append, h]
  have : l.drop i = x :: l.drop (i + 1) := by
    obtain ⟨hl, e⟩ := List.getElem?_eq_some_iff.mp hx
    rw [← e]
    exact List.drop_eq_getElem_cons hl
  rw [this, List.findSome?_cons, hf]
  rfl
theorem fs_miss (h : (l.take i).findSome? f = none) (hx : l[i]? = some x) (hf : f x = none) : (l.take (i + 1)).findSome? f = none := by
  rw [List.take_add_one, hx, List.findSome?_append, h]
  show (none : Option β).or ([x].findSome? f) = none
  rw [List.findSome?_cons, hf]
  rfl
end
section
variable {P : Program} {w : World} {K : PySem.W.Frag} {mg : Str → Option Value} {base : Heap} {f C : Addr} {fd : FuncData}
abbrev nFork : List Str := ["self", "above", "one", "other", "low"]
theorem sc_fork : FnScope nFork ["self", "above"] (defScope s_Kinds_look_at_fork) := ⟨rfl, rfl, rfl, by decide +kernel, rfl, by decide +kernel, by decide +kernel⟩
theorem ok_fork {CF : Addr} (F : Fd K "look_at_fork" "Kinds.look_at_fork" s_Kinds_look_at_fork f fd) (c : KC K C) (hsorted : mg "sorted" = none) (eF : Er P w K mg base "Forked" ["one", "other"] 2 CF) : FnOk P w K mg base (L2.CX P w) 4 f fd ["self", "above"] (spFork C CF K) := by
  refine F.ok sc_fork (fun vs H Q E h => ?_) (fun cdv A outer s H vs Q E hr h => ⟨_, pbw, ?_⟩)
  · obtain ⟨M, a, t, v, ab, rfl, _⟩ := h
    rfl
  obtain ⟨M, a, t, v, ab, rfl, dm, ka, dv, h64, k0, k1⟩ := h
  have F1 : ∀ x, (fun x => (srt ab.ks).findSome? fun y => if isFork t.lowest ab.ks x y = true then some (x, y) else none) x = (srt ab.ks).findSome? fun y => if isFork t.lowest ab.ks x y = true then some (x, y) else none := fun _ => rfl
  refine wb_for owns_cx rfl dm (vi_list (ve_sortedK hsorted rfl (ve_var 1 rfl dv) h64)) (pg_name (i := 2) sc_fork.nd rfl (.inl rfl))
    (fun H1 i σ' H' => Ex H1 H' ∧ ((srt ab.ks).take i).findSome? (fun x => (srt ab.ks).findSome? fun y => if isFork t.lowest ab.ks x y = true then some (x, y) else none) = none ∧ ∃ v2 v3 v4, σ' = [some (.ref a.p), some v, v2, v3, v4])
    (fun H1 e1 => ⟨Ex.rfl', by rw [List.take_zero]; rfl, none, none, none, rfl⟩) (fun H1 i σ' H' e1 p => ⟨Bt.ex p.1, (dm.ex e1).ex p.1⟩) ?_ ?_
  · rintro H1 i x vx _ Ha H2 e1 hx ⟨p1, p2, v2, v3, v4, rfl⟩ ea dx
    have eH2 : Ex H H2 := Ex.tr (Ex.tr e1 p1) ea
    have dm2 := dm.ex eH2
    have ka2 := ka.ex eH2
    have dv2 : den K (hide M H2) v ab := Enc.mono (Ex.hide eH2) dv
    refine wb_for owns_cx rfl dm2 (vi_list (ve_sortedK hsorted rfl (ve_var 1 rfl dv2) h64)) (pg_name (i := 3) sc_fork.nd rfl (.inl rfl))
      (fun H3 j σ' H' => Ex H3 H' ∧ ((srt ab.ks).take j).findSome? (fun y => if isFork t.lowest ab.ks x y = true then some (x, y) else none) = none ∧ ∃ v3 v4, σ' = [some (.ref a.p), some v, some vx, v3, v4])
      (fun H3 e3 => ⟨Ex.rfl', by rw [List.take_zero]; rfl, _, _, rfl⟩) (fun H3 j σ' H' e3 p => ⟨Bt.ex p.1, (dm2.ex e3).ex p.1⟩) ?_ ?_
    · rintro H3 j y vy _ Hb H4 e3 hy ⟨q1, q2, v3, v4, rfl⟩ eb dy
      have e24 : Ex H2 H4 := Ex.tr (Ex.tr e3 q1) eb
      have eH4 : Ex H H4 := Ex.tr eH2 e24
      have dm4 := dm.ex eH4
      have ka4 := ka.ex eH4
      have dv4 : den K (hide M H4) v ab := Enc.mono (Ex.hide eH4) dv
      have dx4 : den K (hide M H4) vx x := dx
      refine wb_set (i := 4) sc_fork.nd dm4 (ve_lget (un1 hr) (ve_lowest c ka4 (ve_raw 0 rfl)) (ve_var 2 rfl dx4) (ve_var 3 rfl dy) ka4.hw) fun vl H5 e5 dl => ?_
      have dx5 : den K (hide M H5) vx x := dx
      have dy5 : den K (hide M H5) vy y := dy
      have e45 := Ex.tr e24 e5
      have eH5 := Ex.tr eH4 e5
      have dv5 : den K (hide M H5) v ab := Enc.mono (Ex.hide eH5) dv
      have dm5 := dm.ex eH5
      refine wb_when dm5 (y := isFork t.lowest ab.ks x y) (VW.vt (vw_and (vc_ltS (ve_var 2 rfl dx5) (ve_var 3 rfl dy5)).vt fun _ => vw_and (vc_isNotN (ve_var 4 rfl dl)).vt fun hs => vw_and1 (vc_notInK (x := (tGet t.lowest x y).getD "") (un1 hr) (ve_var 4 rfl ?_) (ve_var 1 rfl dv5)).vt)) (fun hf H6 e6 => ?_) fun hf H6 e6 => ?_
      · cases hg : tGet t.lowest x y with
        | none => rw [hg] at hs; cases hs
        | some z => rw [hg] at dl; exact dl
      · refine wb_raise2 takes_cx rfl eF hr (dm5.ex e6) (ve_var 2 rfl (y := x) dx5) (ve_var 3 rfl (y := y) dy5) fun v' u' d H7 hd e7 dv' du' hx' => ?_
        rw [show v' = .str x from dv', show u' = .str y from du'] at hx'
        refine k1 x y ?_ d H7 (Ex.back (Ex.tr eH5 e6) hd) (Ex.tr (Ex.tr eH5 e6) e7) hx'
        exact fs_hit p2 hx (fs_hit q2 hy (if_pos hf))
      · exact wb_nil ⟨Ex.tr (Ex.tr (Ex.tr q1 eb) e5) e6, fs_miss q2 hy (if_neg (by rw [hf]; exact Bool.false_ne_true)), _, _, rfl⟩
    · rintro H3 _ H4 e3 ⟨q1, q2, v3, v4, rfl⟩
      rw [List.take_length] at q2
      exact wb_nil ⟨Ex.tr p1 (Ex.tr ea (Ex.tr e3 q1)), fs_miss p2 hx q2, _, _, _, rfl⟩
  · rintro H1 _ H2 e1 ⟨p1, p2, v2, v3, v4, rfl⟩
    rw [List.take_length] at p2
    exact wb_nil (k0 p2 H2 (Ex.tr e1 p1))
abbrev nRound : List Str := ["self", "start", "seen", "waiting", "here"]
theorem sc_round : FnScope nRound ["self"] (defScope s_Kinds_goes_round) := ⟨rfl, rfl, rfl, by decide +kernel, rfl, by decide +kernel, by decide +kernel⟩
theorem ok_round0 (F : Fd K "goes_round" "Kinds.goes_round" s_Kinds_goes_round f fd) (c : KC K C) (hsorted : mg "sorted" = none) : FnOk P w K mg base (L2.CX P w) 1 f fd ["self"] (spRound0 C K) := by
  refine F.ok sc_round (fun vs H Q E h => ?_) (fun cdv A outer s H vs Q E hr h => ⟨_, pbw, ?_⟩)
  · obtain ⟨M, a, t, rfl, _⟩ := h
    rfl
  obtain ⟨M, a, t, rfl, dm, ka, k⟩ := h
  refine wb_for owns_cx rfl dm (vi_list (ve_sortedDM (β := Str) (kv := []) hsorted rfl (ve_musts c ka (ve_raw 0 rfl)) ka.hm .nil (show 0 < 64 by decide))) (pg_name (i := 1) sc_round.nd rfl (.inl rfl))
    (fun H1 i σ' H' => Ex H1 H' ∧ σ' = start nRound [.ref a.p]) (fun H1 e1 => ⟨Ex.rfl', rfl⟩) (fun H1 i σ' H' e1 p => ⟨Bt.ex p.1, (dm.ex e1).ex p.1⟩) ?_ ?_
  · rintro H1 i x vx _ Ha H2 e1 hx
    exact absurd (List.mem_of_getElem? hx) (fun z => nomatch ((srt_perm _).mem_iff.mp z))
  · rintro H1 _ H2 e1 ⟨p1, rfl⟩
    exact wb_ret (M := M) ((dm.ex e1).ex p1) (ve_bl (x := false)) fun u H3 e3 du => by
      rw [show u = .bl false from du]
      exact k H3 (Ex.tr (Ex.tr e1 p1) e3)
end
end Tm
set_option maxHeartbeats 4000000
namespace Tm
open PySem PySem.W PySem.Calls PyProof.Rows PyProof.V PySem.Spec L2
open Enc (den)
/-! ### sorted(d.items()), a dict of texts by texts -/
theorem pairs_get {prog : Program} {w : World} {K : Type} [DecidableEq K] {knd : PySem.KeyKind prog w K} {es : List DictEntry} {kvs : List (K × Value)} (h : PySem.Pairs knd es kvs) : ∀ {j : Nat} {e : DictEntry}, es[j]? = some e → ∃ kv, kvs[j]? = some kv ∧ knd.is kv.1 e.key = true ∧ e.val = kv.2 := by
  induction h with
  | nil => intro j e he; simp at he
  | @cons e0 kv es kvs h1 h2 _ ih =>
    intro j e he
    cases j with
    | zero =>
      have : e0 = e := by simpa using he
      subst this
      exact ⟨kv, rfl, h1, h2⟩
    | succ j =>
      obtain ⟨kv', g1, g2⟩ := ih (j := j) (e := e) (by simpa using he)
      exact ⟨kv', by simpa using g1, g2⟩
/-- v is a pair of these texts -/
def TxPair (h : Heap) (v : Value) (y z : Str) : Prop := ∃ (a : Addr) (t u : Tok), v = .ref a ∧ IsTup h a #[.str y t, .str z u]
def firstTx (h : Heap) (v : Value) : Str := DT.txOf (DT.seqAt0 h (DT.refOf (some v)))
theorem TxPair.tx {h : Heap} {v : Value} {y z : Str} (x : TxPair h v y z) : firstTx h v = y := by
  obtain ⟨a, t, u, rfl, h1⟩ := x
  show DT.txOf (DT.seqAt0 h a) = y
  rw [DT.seqAt0_of h1]
  rfl
section
variable {prog : Program} {w : World} {A : Around} {E : Value → Shared → Prop} {s : Shared}
theorem firsts_tx {h : Heap} {G : Str → Str} : ∀ vs : List Value, (∀ v ∈ vs, ∃ y, TxPair h v y (G y)) → ∃ fs : List Value, KatTups h vs fs ∧ fs.length = vs.length ∧ ∀ f ∈ fs, ∃ (y : Str) (t : Tok), f = Value.str y t
  | [], _ => ⟨[], KatTups.nil, rfl, fun f hf => by simp at hf⟩
  | v :: vs, x => by
    obtain ⟨fs, k, hl, hi⟩ := firsts_tx vs fun u hu => x u (List.mem_cons_of_mem _ hu)
    obtain ⟨y, a, t, u, rfl, o, ho, hc, n, hd⟩ := x v List.mem_cons_self
    refine ⟨.str y t :: fs, KatTups.cons ho hc hd rfl k, by rw [List.length_cons, List.length_cons, hl], fun f hf => ?_⟩
    rcases List.mem_cons.mp hf with rfl | hf
    · exact ⟨y, t, rfl⟩
    · exact hi f hf
theorem kind_tx {vs : List Value} {ρ : Str → Int} {G : Str → Str} (h2 : 2 ≤ vs.length) (x : ∀ v ∈ vs, ∃ y, TxPair s.heap v y (G y))
    (hρ : ∀ v ∈ vs, ∀ u ∈ vs, decide ((firstTx s.heap v).cps.toList < (firstTx s.heap u).cps.toList) = decide (ρ (firstTx s.heap v) < ρ (firstTx s.heap u))) (Q : SortKind → Shared → Prop)
    (h : ∀ κ, TS.Cmp prog w A s κ (pairsOf vs) (fun v => ρ (firstTx s.heap v)) → Q κ s) : wpAny (model prog w) A (keyKind' vs.toArray) Q E s := by
  obtain ⟨fs, k, hl, hi⟩ := firsts_tx vs x
  refine kat_kind (T := Value.type "str") k (by omega) (fun f hf => ?_) rfl (h _ ?_)
  · obtain ⟨y, t, rfl⟩ := hi f hf
    exact PySem.W.Looks.of_pure rfl
  · intro p q hp hq Q' E' hQ
    rw [pairsOf_toList] at hp hq
    have mp := (mem_zip_self hp).2
    have mq := (mem_zip_self hq).2
    obtain ⟨y, py⟩ := x _ mp
    obtain ⟨z, pz⟩ := x _ mq
    have hr := hρ _ mp _ mq
    have hQ' : Q' (decide (y.cps.toList < z.cps.toList)) s := by
      rw [py.tx, pz.tx] at hr
      rw [hr]
      have hQ2 : Q' (decide (ρ (firstTx s.heap p.1) < ρ (firstTx s.heap q.1))) s := hQ
      rw [py.tx, pz.tx] at hQ2
      exact hQ2
    obtain ⟨a, t, u, e1, o, ho, hc, n, hd⟩ := py
    obtain ⟨a', t', u', e2, o', ho', hc', n', hd'⟩ := pz
    rw [e1, e2]
    refine kat_lt ho hd ho' hd' ?_
    show KatLex prog w A _ false Q' [(Value.str y t, Value.str z t'), (Value.str (G y) u, Value.str (G z) u')] 0 s
    by_cases e : y = z
    · subst e
      have irr : decide (y.cps.toList < y.cps.toList) = false := decide_eq_false (List.lt_irrefl _)
      rw [irr] at hQ'
      refine kat_cons (wpAny_eqBool_str ?_)
      rw [decide_eq_true rfl]
      refine kat_yes (kat_cons (wpAny_eqBool_str ?_))
      rw [decide_eq_true rfl]
      exact kat_yes (kat_nil hQ')
    · refine kat_cons (wpAny_eqBool_str ?_)
      rw [decide_eq_false e]
      exact kat_no (oneLt_any_str hQ')
end
/-- the place of a text among texts -/
def rankS (l : List Str) (y : Str) : Int := ((l.filter fun x => decide (x.cps.toList < y.cps.toList)).length : Int)
theorem rankS_le {l : List Str} {y z : Str} (h : ¬ y.cps.toList < z.cps.toList) : rankS l z ≤ rankS l y := by
  unfold rankS
  have : ∀ l : List Str, (l.filter fun x => decide (x.cps.toList < z.cps.toList)).length ≤ (l.filter fun x => decide (x.cps.toList < y.cps.toList)).length := by
    intro l
    induction l with
    | nil => exact Nat.le_refl _
    | cons x l ih =>
      rw [List.filter_cons, List.filter_cons]
      by_cases h1 : x.cps.toList < z.cps.toList
      · have h2 : x.cps.toList < y.cps.toList := (fun hn => (List.not_lt.mpr (List.le_trans (List.not_lt.mp h) (List.not_lt.mp hn))) h1 : ¬ ¬ x.cps.toList < y.cps.toList) |> Decidable.not_not.mp
        rw [decide_eq_true h1, decide_eq_true h2, if_pos rfl, if_pos rfl, List.length_cons, List.length_cons]
        omega
      · rw [decide_eq_false h1, if_neg Bool.false_ne_true]
        split
        · rw [List.length_cons]
          omega
        · exact ih
  exact Int.ofNat_le.mpr (this l)
theorem rankS_lt {l : List Str} {y z : Str} (hy : y ∈ l) (h : y.cps.toList < z.cps.toList) : rankS l y < rankS l z := by
  unfold rankS
  have key : ∀ l : List Str, ((l.filter fun x => decide (x.cps.toList < y.cps.toList)).length ≤ (l.filter fun x => decide (x.cps.toList < z.cps.toList)).length) ∧ (y ∈ l → (l.filter fun x => decide (x.cps.toList < y.cps.toList)).length < (l.filter fun x => decide (x.cps.toList < z.cps.toList)).length) := by
    intro l
    induction l with
    | nil => exact ⟨Nat.le_refl _, fun z => nomatch z⟩
    | cons x l ih =>
      rw [List.filter_cons, List.filter_cons]
      by_cases h1 : x.cps.toList < y.cps.toList
      · have h2 : x.cps.toList < z.cps.toList := List.lt_trans h1 h
        rw [decide_eq_true h1, decide_eq_true h2, if_pos rfl, if_pos rfl, List.length_cons, List.length_cons]
        refine ⟨by have := ih.1; omega, fun hm => ?_⟩
        rcases List.mem_cons.mp hm with e | e
        · rw [e] at h1
          exact absurd h1 (List.lt_irrefl _)
        · have := ih.2 e
          omega
      · rw [decide_eq_false h1, if_neg Bool.false_ne_true]
        by_cases h2 : x.cps.toList < z.cps.toList
        · rw [decide_eq_true h2, if_pos rfl, List.length_cons]
          exact ⟨by have := ih.1; omega, fun _ => by have := ih.1; omega⟩
        · rw [decide_eq_false h2, if_neg Bool.false_ne_true]
          refine ⟨ih.1, fun hm => ?_⟩
          rcases List.mem_cons.mp hm with e | e
          · rw [← e] at h2
            exact absurd h h2
          · exact ih.2 e
  exact Int.ofNat_lt.mpr ((key l).2 hy)
theorem rankS_dec {l : List Str} {y z : Str} (hy : y ∈ l) : decide (y.cps.toList < z.cps.toList) = decide (rankS l y < rankS l z) := by
  by_cases h : y.cps.toList < z.cps.toList
  · rw [decide_eq_true h, decide_eq_true (rankS_lt hy h)]
  · rw [decide_eq_false h, decide_eq_false (by have := rankS_le (l := l) h; omega)]
abbrev entS (z : Str × Str) : L2.Key × V := (Sum.inr z.1, V.str z.2)
/-- the pairs by their texts -/
def rSortTx : List V → Hp → VK → Prop := fun vs H Q => ∃ (p a : Addr) (kv : List (Str × Str)), vs = [.ref p] ∧ H p = some (DX.itemsO p a) ∧ Rd H a (.dK (kv.map entS)) ∧ kv.length < 64 ∧
  ∀ (H' : Hp) (l : Addr) (ps : List (Addr × Str × Str)), Ex H H' → (kv.map (·.1)).Nodup → (ps.map (·.2)).Perm kv → (ps.map (·.2)).Pairwise (fun e f => leS e.1 f.1) → H' l = some (.lst (ps.map fun z => V.ref z.1)) → H l = none →
    (∀ z ∈ ps, H' z.1 = some (.tup [.str z.2.1, .str z.2.2]) ∧ H z.1 = none) → Q (.ref l) H'
theorem cr_sortedTxIt {X : Cx} (hc : X.calm = true) : CallR X (.builtin "sorted") rSortTx := by
  intro pins s σ H xs us Q I r h
  obtain ⟨p, a, kv, rfl, hp, ha, h64, q⟩ := h
  obtain rfl := Vals.ref1 r
  have view : s.heap.IsItemsView p a := (show ObjOk X.prog X.w H s.heap p (DX.itemsO p a) from I.hok p _ hp).1
  obtain ⟨z, hd, vs, rel, o, es, ep, ho, hx, hdat, hko, hpr, hn⟩ := dk_rd I.hok ha
  have l1 : (kv.map entS).length = vs.length := Paired.length rel
  rw [List.length_map] at l1
  have l2 : es.size = vs.length := by rw [← hpr.length, Array.length_toList]
  have hh : X.A.handled = none := I.ok.hd hc
  -- the keys are apart
  have ek : vs.map (·.1) = kv.map fun e => (Sum.inr e.1 : L2.Key) := by
    have : ∀ {l : List (L2.Key × V)} {m : List (L2.Key × Value)}, KV l m → m.map (·.1) = l.map (·.1) := by
      intro l m r
      induction r with
      | nil => rfl
      | cons h _ ih => rw [List.map_cons, List.map_cons, ih, h.1]
    rw [this rel, List.map_map]
    rfl
  have ndk : (kv.map (·.1)).Nodup := by
    rw [ek] at hn
    have e2 : (kv.map fun e => (Sum.inr e.1 : L2.Key)) = (kv.map (·.1)).map Sum.inr := by rw [List.map_map]; rfl
    rw [e2] at hn
    exact (List.pairwise_map.mp hn).imp fun h e => h (by rw [e])
  refine DT.sortedI (es := es) (ep := ep) hh view ⟨o, ho, hx, hdat⟩ (by rw [sizeLine_eq]; omega) fun h' tk as hk hlt hl hG => ?_
  have lak : as.length = kv.length := by omega
  have nd : as.Nodup := List.Pairwise.imp (fun h => Nat.ne_of_lt h) hG.rise
  have pr : ∀ (j : Nat) (b : Addr), as[j]? = some b → ∃ (e : Str × Str) (t u : Tok), kv[j]? = some e ∧ h'.get? b = some { cls := .type "tuple", data := .seq #[Value.str e.1 t, Value.str e.2 u] } := by
    intro j b hj
    obtain ⟨en, he, hg⟩ := hG.pairs j b hj
    rw [← Array.getElem?_toList] at he
    obtain ⟨kw, hkw, g1, g2⟩ := pairs_get hpr he
    obtain ⟨e0, he0, r1, r2⟩ := DX.pget rel hkw
    rw [List.getElem?_map] at he0
    cases hkj : kv[j]? with
    | none => rw [hkj] at he0; cases he0
    | some e =>
      rw [hkj] at he0
      have ee : entS e = e0 := Option.some.inj he0
      rw [← ee] at r1 r2
      have r1' : Sum.inr e.1 = kw.1 := r1
      obtain ⟨u, r2'⟩ : ∃ u, kw.2 = Value.str e.2 u := r2
      have g1' : keyIs kw.1 en.key = true := g1
      rw [← r1'] at g1'
      obtain ⟨t, g1''⟩ : ∃ t, en.key = Value.str e.1 t := relV_key g1'
      refine ⟨e, t, u, rfl, ?_⟩
      rw [hg, g1'', g2, r2']
  have hob : (h'.push { cls := .type "list", data := .seq (as.map Value.ref).toArray }).get? h'.objs.size = some (seqObj "list" (as.map Value.ref).toArray 0) := Heap.get?_push_size _ rfl
  have kb : ∀ b o, s.heap.get? b = some o → (h'.push { cls := .type "list", data := .seq (as.map Value.ref).toArray }).get? b = some o := fun b o e => Heap.get?_push_of_some _ (hk b o e)
  have ne0 : ∀ b o, h'.get? b = some o → b ≠ h'.objs.size := fun b o e => Nat.ne_of_lt (Heap.lt_size e)
  generalize hh2 : h'.push { cls := .type "list", data := .seq (as.map Value.ref).toArray } = h2 at hob kb ⊢
  have ka : ∀ b o, h'.get? b = some o → h2.get? b = some o := fun b o e => by rw [← hh2]; exact Heap.get?_push_of_some _ e
  -- the value that stands with a text
  have uni : ∀ e ∈ kv, ∀ f ∈ kv, e.1 = f.1 → e = f := fun e he f hf h => by
    obtain ⟨i, hi⟩ := List.mem_iff_getElem?.mp he
    obtain ⟨j, hj⟩ := List.mem_iff_getElem?.mp hf
    have e1 : (kv.map (·.1))[i]? = some e.1 := by rw [List.getElem?_map, hi]; rfl
    have e2 : (kv.map (·.1))[j]? = some f.1 := by rw [List.getElem?_map, hj]; rfl
    have eij : i = j := (List.getElem?_inj (List.getElem?_eq_some_iff.mp e1).1 ndk).mp (by rw [e1, e2, h])
    subst eij
    exact Option.some.inj (hi.symm.trans hj)
  let G : Str → Str := fun y => (aGet kv y).getD ""
  have hG2 : ∀ e ∈ kv, G e.1 = e.2 := by
    intro e he
    show (aGet kv e.1).getD "" = e.2
    unfold aGet
    cases hf : kv.find? fun z => decide (z.1 = e.1) with
    | none =>
      have := List.find?_eq_none.mp hf e he
      simp at this
    | some f =>
      have hm := List.mem_of_find?_eq_some hf
      have hq : f.1 = e.1 := by simpa using List.find?_some hf
      rw [uni f hm e he hq]
      rfl
  have pin : ∀ (j : Nat) (b : Addr), as[j]? = some b → ∃ e : Str × Str, kv[j]? = some e ∧ TxPair (TS.midHeap h2 h'.objs.size (as.map Value.ref)) (.ref b) e.1 (G e.1) := by
    intro j b hj
    obtain ⟨e, t, u, he, hg⟩ := pr j b hj
    refine ⟨e, he, ?_⟩
    rw [hG2 e (List.mem_of_getElem? he)]
    exact ⟨b, t, u, rfl, ⟨_, TS.midHeap_old (ne0 _ _ hg) (ka _ _ hg), rfl, 0, rfl⟩⟩
  have at_ : ∀ v ∈ as.map Value.ref, ∃ (j : Nat) (b : Addr) (e : Str × Str), v = .ref b ∧ as[j]? = some b ∧ kv[j]? = some e ∧ firstTx (TS.midHeap h2 h'.objs.size (as.map Value.ref)) (.ref b) = e.1 := by
    intro v hv'
    obtain ⟨b, hb, rfl⟩ := List.mem_map.mp hv'
    obtain ⟨j, hj⟩ := List.mem_iff_getElem?.mp hb
    obtain ⟨e, he, hp'⟩ := pin j b hj
    exact ⟨j, b, e, rfl, hj, he, hp'.tx⟩
  have tx : ∀ (j : Nat) (b : Addr) (e : Str × Str), as[j]? = some b → kv[j]? = some e → firstTx (TS.midHeap h2 h'.objs.size (as.map Value.ref)) (.ref b) = e.1 := by
    intro j b e hj he
    obtain ⟨e', he', hp'⟩ := pin j b hj
    rw [Option.some.inj (he.symm.trans he')]
    exact hp'.tx
  refine wpAny_call_entry PyProof.Rows.slot_list_sort ⟨_, hob, rfl⟩ PyProof.Rows.entry_list_sort
    (SK.plain_sort (s := { s with heap := h2, toks := tk }) (r := fun v => rankS (kv.map (·.1)) (firstTx (TS.midHeap h2 h'.objs.size (as.map Value.ref)) v)) hob (by rw [List.length_map]; omega) (fun h2' Qk hQk => ?_) fun ps out o1 o2 o3 => ⟨.none, rfl, ?_⟩) (PyProof.Rows.args_list_sort _)
  · refine kind_tx (s := { s with heap := TS.midHeap h2 h'.objs.size (as.map Value.ref), toks := tk }) (ρ := rankS (kv.map (·.1))) (G := G) h2' (fun v hv' => ?_) (fun v hv' u hu' => ?_) Qk hQk
    · obtain ⟨b, hb, rfl⟩ := List.mem_map.mp hv'
      obtain ⟨j, hj⟩ := List.mem_iff_getElem?.mp hb
      obtain ⟨e', _, hp'⟩ := pin j b hj
      exact ⟨e'.1, hp'⟩
    · obtain ⟨j, b, e, rfl, hj, he, t1⟩ := at_ v hv'
      obtain ⟨j2, b2, e2, rfl, hj2, he2, t2⟩ := at_ u hu'
      show decide ((firstTx (TS.midHeap h2 h'.objs.size (as.map Value.ref)) (.ref b)).cps.toList < (firstTx (TS.midHeap h2 h'.objs.size (as.map Value.ref)) (.ref b2)).cps.toList) = decide (rankS _ (firstTx (TS.midHeap h2 h'.objs.size (as.map Value.ref)) (.ref b)) < rankS _ (firstTx (TS.midHeap h2 h'.objs.size (as.map Value.ref)) (.ref b2)))
      rw [t1, t2]
      exact rankS_dec (List.mem_map.mpr ⟨e, List.mem_of_getElem? he, rfl⟩)
  · show EP X pins σ Q (.ref h'.objs.size) { s with heap := sortedHeap h2 h'.objs.size (as.map Value.ref) out, toks := tk }
    obtain ⟨zs, pz, ez⟩ := perm_lift (fun z : Addr × Str × Str => (Value.ref z.1, Value.ref z.1)) o2 (as.zip kv) (DX.zip_self Value.ref as kv lak)
    have idx : ∀ z ∈ zs, ∃ j : Nat, as[j]? = some z.1 ∧ kv[j]? = some z.2 := by
      intro z' hz'
      obtain ⟨j, hj⟩ := List.mem_iff_getElem?.mp (pz.mem_iff.mp hz')
      exact ⟨j, List.getElem?_zip_eq_some.mp hj⟩
    have hout : out.toList = zs.map fun z => Value.ref z.1 := by
      rw [o1, ← ez, List.map_map]
      rfl
    have hperm : (zs.map (·.2)).Perm kv := by
      have e := pz.map (·.2)
      have m2 : (as.zip kv).map (·.2) = kv := List.map_snd_zip (by rw [lak]; exact Nat.le_refl _)
      rw [m2] at e
      exact e
    have hsort : (zs.map (·.2)).Pairwise (fun e f => leS e.1 f.1) := by
      rw [← ez, List.pairwise_map] at o3
      rw [List.pairwise_map]
      refine List.Pairwise.imp_of_mem (fun {x y} hx hy h => ?_) o3
      obtain ⟨j, j1, j2⟩ := idx x hx
      obtain ⟨i, i1, i2⟩ := idx y hy
      have h' : rankS (kv.map (·.1)) (firstTx (TS.midHeap h2 h'.objs.size (as.map Value.ref)) (.ref x.1)) ≤ rankS (kv.map (·.1)) (firstTx (TS.midHeap h2 h'.objs.size (as.map Value.ref)) (.ref y.1)) := h
      rw [tx j _ _ j1 j2, tx i _ _ i1 i2] at h'
      refine List.not_lt.mp fun hlt' => ?_
      have := rankS_lt (l := kv.map (·.1)) (List.mem_map.mpr ⟨y.2, List.mem_of_getElem? i2, rfl⟩) hlt'
      omega
    have kF : ∀ b o, b ≠ h'.objs.size → h2.get? b = some o → (sortedHeap h2 h'.objs.size (as.map Value.ref) out).get? b = some o := fun b o hb e => (PyProof.Rows.sortedHeap_old hb (Heap.lt_size e)).trans e
    have kS : ∀ b o, s.heap.get? b = some o → (sortedHeap h2 h'.objs.size (as.map Value.ref) out).get? b = some o := fun b o e => kF b o (ne0 _ _ (hk b o e)) (kb b o e)
    obtain ⟨eF, heF⟩ := PyProof.Rows.sortedHeap_at (vs := as.map Value.ref) (out := out) hob
    have I1 : Inv X pins σ H { s with heap := sortedHeap h2 h'.objs.size (as.map Value.ref) out, toks := tk } := I.kept (t' := tk) kS
    have hn0 : H h'.objs.size = none := I.hok.fresh (Nat.le_of_lt hlt)
    have hlen : (zs.map fun z => V.ref z.1).length ≤ sizeLine := by
      have e := hperm.length_eq
      rw [List.length_map] at e
      rw [List.length_map, sizeLine_eq]
      omega
    have rv : Vals (zs.map fun z => V.ref z.1) out.toList := by
      rw [hout]
      exact vals_maps (fun z : Addr × Str × Str => V.ref z.1) (fun z => Value.ref z.1) zs fun _ _ => rfl
    have I2 : Inv X pins σ (upd H h'.objs.size (.lst (zs.map fun z => V.ref z.1))) { s with heap := sortedHeap h2 h'.objs.size (as.map Value.ref) out, toks := tk } :=
      I1.take (h' := sortedHeap h2 h'.objs.size (as.map Value.ref) out) (t' := tk) (fun b ob _ e => e) (I.fpOk (Nat.le_of_lt hlt) hn0) ⟨hlen, out.toList, eF, rv, heF⟩
    obtain ⟨H2, I3, g, qt⟩ := DX.takeT (P := fun b vs => ∃ (j : Nat) (e : Str × Str), as[j]? = some b ∧ kv[j]? = some e ∧ vs = [.str e.1, .str e.2]) I as _ I2 nd fun b hb => by
      obtain ⟨j, hj⟩ := List.mem_iff_getElem?.mp hb
      obtain ⟨e, t, u, he, hg⟩ := pr j b hj
      have hbl : s.heap.objs.size ≤ b := Nat.le_of_lt (hG.above b hb)
      refine ⟨hbl, ?_, [.str e.1, .str e.2], ⟨j, e, hj, he, rfl⟩, fun H3 => ⟨(by rw [sizeLine_eq]; show 2 ≤ 16777216; omega), [Value.str e.1 t, Value.str e.2 u], .cons ⟨t, rfl⟩ (.cons ⟨u, rfl⟩ .nil), ⟨_, kF _ _ (ne0 _ _ hg) (ka _ _ hg), rfl, 0, rfl⟩⟩⟩
      rw [upd_ne (ne0 _ _ hg)]
      exact I.hok.fresh hbl
    have gr : ∀ b o, H b = some o → H2 b = some o := fun b o e => g b o (by rw [upd_ne (ne_of_none e hn0)]; exact e)
    refine ⟨.ref h'.objs.size, H2, I3, rfl, q H2 h'.objs.size zs gr ndk hperm hsort (g _ _ upd_same) hn0 fun z' hz' => ?_⟩
    obtain ⟨i, i1, i2⟩ := idx z' hz'
    obtain ⟨vs, ⟨j, e, j1, j2, ev⟩, hH⟩ := qt z'.1 (List.mem_of_getElem? i1)
    have eij : i = j := (List.getElem?_inj (List.getElem?_eq_some_iff.mp i1).1 nd).mp (i1.trans j1.symm)
    subst eij
    have ee : e = z'.2 := Option.some.inj (j2.symm.trans i2)
    rw [ev, ee] at hH
    exact ⟨hH, I.hok.fresh (Nat.le_of_lt (hG.above z'.1 (List.mem_of_getElem? i1)))⟩
/-- the pairs in the order of their first texts -/
def srtKV (l : List (Str × Str)) : List (Str × Str) := l.mergeSort fun a b => decide (leS a.1 b.1)
theorem srtKV_perm (l : List (Str × Str)) : (srtKV l).Perm l := List.mergeSort_perm l _
theorem srtKV_pw (l : List (Str × Str)) : (srtKV l).Pairwise fun a b => leS a.1 b.1 := by
  have h := List.pairwise_mergeSort (le := fun a b : Str × Str => decide (leS a.1 b.1)) (fun a b c h1 h2 => decide_eq_true (leS_trans (of_decide_eq_true h1) (of_decide_eq_true h2))) (fun a b => by
    rcases leS_total a.1 b.1 with z | z
    · rw [decide_eq_true z]; rfl
    · rw [decide_eq_true z]; simp) l
  exact h.imp fun z => of_decide_eq_true z
theorem nodup_key {l : List (Str × Str)} (nd : (l.map (·.1)).Nodup) {e f : Str × Str} (he : e ∈ l) (hf : f ∈ l) (h : e.1 = f.1) : e = f := by
  obtain ⟨i, hi⟩ := List.mem_iff_getElem?.mp he
  obtain ⟨j, hj⟩ := List.mem_iff_getElem?.mp hf
  have e1 : (l.map (·.1))[i]? = some e.1 := by rw [List.getElem?_map, hi]; rfl
  have e2 : (l.map (·.1))[j]? = some f.1 := by rw [List.getElem?_map, hj]; rfl
  have eij : i = j := (List.getElem?_inj (List.getElem?_eq_some_iff.mp e1).1 nd).mp (by rw [e1, e2, h])
  subst eij
  exact Option.some.inj (hi.symm.trans hj)
theorem srtKV_one {l m : List (Str × Str)} (nd : (l.map (·.1)).Nodup) (hp : m.Perm l) (hs : m.Pairwise fun a b => leS a.1 b.1) : m = srtKV l :=
  List.Perm.eq_of_pairwise (fun a b ha hb h1 h2 => nodup_key nd (hp.mem_iff.mp ha) ((srtKV_perm l).mem_iff.mp hb) (leS_anti h1 h2)) hs (srtKV_pw l) (hp.trans (srtKV_perm l).symm)
theorem dk_entS {K : PySem.W.Frag} {H : Hp} {kvs : List (L2.Key × V)} {kv : List (Str × Str)} (h : DK K H kvs kv) : kvs = kv.map entS := by
  induction h with
  | nil => rfl
  | @cons q z l m r _ ih => rw [List.map_cons, ih]; exact congrArg (· :: _) (Prod.ext r.1 r.2)
def tItems (te : TE) : TE := fun σ H Q => te σ H fun x H1 => ∃ (a : Addr) (kvs : List (L2.Key × V)), x = .ref a ∧ Rd H1 a (.dK kvs) ∧ ∀ p, H1 p = none → Q (.ref p) (upd H1 p (DX.itemsO p a))
section
variable {X : Cx} {M : List Addr} {σ : L2.St} {H : Hp} {o : Expr} {te : TE} {p pos apos cpos : Pos}
theorem pe_items (he : PE X o te) (hbase : attributeBase o "items" X.env (eval o X.env) = eval o X.env := by rfl) (hline : (apos.endLine == cpos.line) = true := by rfl) : PE X (.Call (.Attribute o "items" apos) [] [] cpos) (tItems te) := by
  refine ⟨fun pins s σ H Q I hq => ?_⟩
  refine wpAny_Call_method (T := "dict") (id := "dict.items") hbase rfl hline F.plainAttrs_dict F.slot_dict_items F.type_dict_items (thn (he.run pins s σ H _ I hq) fun u s1 ⟨x, H1, I1, rx, d, kvs, ex, hd, q⟩ => ?_)
  subst ex
  obtain rfl : u = Value.ref d := rx
  obtain ⟨hz, hs0, vs, kv, hdo⟩ := dk_rd I1.hok hd
  obtain ⟨ob, es, ep, ho, hx, hdat, _⟩ := id hdo
  refine ⟨hdo.typeIs, hdo.mapOf.noDict, ?_⟩
  show wpAny _ _ (callWith cpos (.builtin "dict.items") [.ref d] [] []) _ X.xe s1
  refine Calls.callWith_builtin rfl (PySem.evalArgs_none (DT.callItems (es := es) (ep := ep) hs0 ⟨ob, ho, hx, hdat⟩ ?_))
  exact ⟨.ref s1.heap.objs.size, upd H1 s1.heap.objs.size (DX.itemsO s1.heap.objs.size d), I1.laid (t' := s1.toks) (fun b u e => Heap.get?_push_of_some _ e) (Nat.le_refl _) (DX.itemsO_ok (Heap.get?_push_size _ rfl)), rfl, q _ (I1.hok.fresh (Nat.le_refl _))⟩
/-- sorted(d.items()) -/
theorem ve_sortedItems {t : Dct Str} (hm : X.mg "sorted" = none) (hc : X.calm = true) (h : VE X M σ H o t) (h64 : t.kv.length < 64) (hg : Gl X "sorted" := by rfl) (hbase : attributeBase o "items" X.env (eval o X.env) = eval o X.env := by rfl) (hline : (apos.endLine == cpos.line) = true := by rfl)
    (he : starEach [.Call (.Attribute o "items" apos) [] [] cpos] X.env = (false, eval (.Call (.Attribute o "items" apos) [] [] cpos) X.env) :: starEach [] X.env := by rfl) (hpl : (backTo pos (starEach [] X.env)).any (·.1) = false := by rfl) : VE X M σ H (.Call (.Name "sorted" p) [.Call (.Attribute o "items" apos) [] [] cpos] [] pos) (srtKV t.kv) :=
  ve_rule (pe_callB (cr_sortedTxIt hc) hg hm (by decide +kernel) (pa_cons (pe_items pw hbase hline) pa_nil he) (by decide) (by decide) he hpl) fun H1 e1 d Q q => h H1 e1 d _ fun v H2 e2 dv => by
    obtain ⟨l, od, kvs, rfl, hl, hd⟩ := dv
    have hk := dk_entS hd
    subst hk
    refine ⟨l, _, rfl, .inr ⟨od, (hide_some hl).2⟩, fun r hr => ?_⟩
    have e3 : Ex H2 (upd H2 r (DX.itemsO r l)) := Ex.new hr
    refine ⟨r, l, t.kv, rfl, upd_same, .inr ⟨od, e3 l _ (hide_some hl).2⟩, h64, fun H' l' ps eH nd hp hs hl' hn' hz => ?_⟩
    have eH2 : Ex H2 H' := Ex.tr e3 eH
    have d2 := d.ex (Ex.tr e2 e3)
    rw [← srtKV_one nd hp hs] at q
    refine q _ _ (Ex.tr e2 eH2) ⟨l', ps.map fun z => V.ref z.1, rfl, .inl (.inl ?_), ?_⟩
    · rw [hide_out (d2.fresh hn')]
      exact hl'
    · have go : ∀ ps : List (Addr × Str × Str), (∀ z ∈ ps, H' z.1 = some (.tup [.str z.2.1, .str z.2.2]) ∧ (upd H2 r (DX.itemsO r l)) z.1 = none) → All2 (den X.K (hide M H')) (ps.map fun z => V.ref z.1) (ps.map (·.2)) := by
        intro ps
        induction ps with
        | nil => intro _; exact .nil
        | cons z ps ih =>
          intro hz
          obtain ⟨z1, z2⟩ := hz z List.mem_cons_self
          refine .cons ⟨z.1, .str z.2.1, .str z.2.2, rfl, .inl (.inl ?_), rfl, rfl⟩ (ih fun y hy => hz y (List.mem_cons_of_mem _ hy))
          rw [hide_out (d2.fresh z2)]
          exact z1
      exact go ps hz
end
end Tm
set_option maxHeartbeats 4000000
namespace Tm
open PySem PySem.Spec PyProof.Rows L2 Pl
open Enc (den)
section
variable {C : Addr} {K : PySem.W.Frag} {M : List Addr} {H H1 : Hp} {a : KA} {t : Tab}
theorem KindsAt.more {q : Addr} (k : KindsAt C K M H a t) (hq : H q = none) (e : Ex H H1) : KindsAt C K (q :: M) H1 a t := by
  have eh : Ex (hide M H) (hide (q :: M) H1) := hide_under hq e
  have gg : ∀ {β : Type} [Enc β] {x : Addr} {kv : List (Str × β)}, (∃ kvs, H x = some (.dK kvs) ∧ DK K (hide M H) kvs kv) → ∃ kvs, H1 x = some (.dK kvs) ∧ DK K (hide (q :: M) H1) kvs kv := fun ⟨kvs, h1, h2⟩ => ⟨kvs, e _ _ h1, DK.mono h2 eh⟩
  exact ⟨e _ _ k.hp, k.nd, fun x hx => List.mem_cons_of_mem _ (k.inM x hx), e _ _ k.ho, gg k.hr, gg k.hs, gg k.hl, gg k.hu, gg k.hh, e _ _ k.hw, e _ _ k.hm⟩
/-- a table's part is set -/
theorem KindsAt.part {x : Addr} {o : HO} {t' : Tab} (k : KindsAt C K M H a t) (hx : x ∈ a.all) (ho : x = a.o → o = .lst (t'.order.map V.str)) (ho' : x ≠ a.o → t'.order = t.order)
    (hr : x = a.r → ∃ kvs, o = .dK kvs ∧ DK K (hide M H) kvs t'.right) (hr' : x ≠ a.r → t'.right = t.right) (hs : x = a.s → ∃ kvs, o = .dK kvs ∧ DK K (hide M H) kvs t'.spoken) (hs' : x ≠ a.s → t'.spoken = t.spoken)
    (hl : x = a.l → ∃ kvs, o = .dK kvs ∧ DK K (hide M H) kvs t'.lets) (hl' : x ≠ a.l → t'.lets = t.lets) (hu : x = a.u → ∃ kvs, o = .dK kvs ∧ DK K (hide M H) kvs t'.uppers) (hu' : x ≠ a.u → t'.uppers = t.uppers)
    (hh : x = a.h → ∃ kvs, o = .dK kvs ∧ DK K (hide M H) kvs t'.homes) (hh' : x ≠ a.h → t'.homes = t.homes) (hw : x = a.w → o = .dT (ltab t'.lowest)) (hw' : x ≠ a.w → t'.lowest = t.lowest) (hm : x ≠ a.m) : KindsAt C K M (upd H x o) a t' := by
  have xM : x ∈ M := k.inM x (List.mem_cons_of_mem _ hx)
  have np : a.p ≠ x := fun z => (List.nodup_cons.mp k.nd).1 (by rw [z]; exact hx)
  have eh : hide M (upd H x o) = hide M H := hide_upd xM
  have gg : ∀ {β : Type} [Enc β] {y : Addr} {kv kv' : List (Str × β)}, (∃ kvs, H y = some (.dK kvs) ∧ DK K (hide M H) kvs kv) → (x = y → ∃ kvs, o = .dK kvs ∧ DK K (hide M H) kvs kv') → (x ≠ y → kv' = kv) → ∃ kvs, upd H x o y = some (.dK kvs) ∧ DK K (hide M (upd H x o)) kvs kv' := by
    intro β _ y kv kv' ⟨kvs, h1, h2⟩ g1 g2
    rw [eh]
    by_cases e : x = y
    · obtain ⟨kvs', e1, e2⟩ := g1 e
      exact ⟨kvs', by rw [← e, upd_same, e1], e2⟩
    · exact ⟨kvs, by rw [upd_ne fun z => e z.symm]; exact h1, by rw [g2 e]; exact h2⟩
  refine ⟨by rw [upd_ne np]; exact k.hp, k.nd, k.inM, ?_, gg k.hr hr hr', gg k.hs hs hs', gg k.hl hl hl', gg k.hu hu hu', gg k.hh hh hh', ?_, by rw [upd_ne fun z => hm z.symm]; exact k.hm⟩
  · by_cases e : x = a.o
    · rw [← e, upd_same, ho e]
    · rw [upd_ne fun z => e z.symm, ho' e]; exact k.ho
  · by_cases e : x = a.w
    · rw [← e, upd_same, hw e]
    · rw [upd_ne fun z => e z.symm, hw' e]; exact k.hw
theorem KA.nes (h : (a.p :: a.all).Nodup) : (a.o ≠ a.r ∧ a.o ≠ a.s ∧ a.o ≠ a.l ∧ a.o ≠ a.u ∧ a.o ≠ a.h ∧ a.o ≠ a.w ∧ a.o ≠ a.m) ∧ (a.r ≠ a.s ∧ a.r ≠ a.l ∧ a.r ≠ a.u ∧ a.r ≠ a.h ∧ a.r ≠ a.w ∧ a.r ≠ a.m) ∧ (a.s ≠ a.l ∧ a.s ≠ a.u ∧ a.s ≠ a.h ∧ a.s ≠ a.w ∧ a.s ≠ a.m) ∧ (a.l ≠ a.u ∧ a.l ≠ a.h ∧ a.l ≠ a.w ∧ a.l ≠ a.m) ∧ (a.u ≠ a.h ∧ a.u ≠ a.w ∧ a.u ≠ a.m) ∧ (a.h ≠ a.w ∧ a.h ≠ a.m) ∧ a.w ≠ a.m := by
  have h2 := (List.nodup_cons.mp h).2
  simpa [KA.all, and_assoc] using h2
theorem KindsAt.setO (k : KindsAt C K M H a t) (l : List Str) : KindsAt C K M (upd H a.o (.lst (l.map V.str))) a { t with order := l } := by
  obtain ⟨⟨n1, n2, n3, n4, n5, n6, n7⟩, _⟩ := KA.nes k.nd
  exact k.part (by simp [KA.all]) (fun _ => rfl) (fun z => absurd rfl z) (fun z => absurd z n1) (fun _ => rfl) (fun z => absurd z n2) (fun _ => rfl) (fun z => absurd z n3) (fun _ => rfl) (fun z => absurd z n4) (fun _ => rfl) (fun z => absurd z n5) (fun _ => rfl) (fun z => absurd z n6) (fun _ => rfl) n7
theorem KindsAt.setR (k : KindsAt C K M H a t) {kvs : List (Key × V)} {l : List (Str × List Str)} (h : DK K (hide M H) kvs l) : KindsAt C K M (upd H a.r (.dK kvs)) a { t with right := l } := by
  obtain ⟨⟨n1, _⟩, ⟨m1, m2, m3, m4, m5, m6⟩, _⟩ := KA.nes k.nd
  exact k.part (by simp [KA.all]) (fun z => absurd z.symm n1) (fun _ => rfl) (fun _ => ⟨_, rfl, h⟩) (fun z => absurd rfl z) (fun z => absurd z m1) (fun _ => rfl) (fun z => absurd z m2) (fun _ => rfl) (fun z => absurd z m3) (fun _ => rfl) (fun z => absurd z m4) (fun _ => rfl) (fun z => absurd z m5) (fun _ => rfl) m6
theorem KindsAt.setS (k : KindsAt C K M H a t) {kvs : List (Key × V)} {l : List (Str × Dct Str)} (h : DK K (hide M H) kvs l) : KindsAt C K M (upd H a.s (.dK kvs)) a { t with spoken := l } := by
  obtain ⟨⟨_, n2, _⟩, ⟨m1, _⟩, ⟨o1, o2, o3, o4, o5⟩, _⟩ := KA.nes k.nd
  exact k.part (by simp [KA.all]) (fun z => absurd z.symm n2) (fun _ => rfl) (fun z => absurd z.symm m1) (fun _ => rfl) (fun _ => ⟨_, rfl, h⟩) (fun z => absurd rfl z) (fun z => absurd z o1) (fun _ => rfl) (fun z => absurd z o2) (fun _ => rfl) (fun z => absurd z o3) (fun _ => rfl) (fun z => absurd z o4) (fun _ => rfl) o5
theorem KindsAt.setL (k : KindsAt C K M H a t) {kvs : List (Key × V)} {l : List (Str × Dct Str)} (h : DK K (hide M H) kvs l) : KindsAt C K M (upd H a.l (.dK kvs)) a { t with lets := l } := by
  obtain ⟨⟨_, _, n3, _⟩, ⟨_, m2, _⟩, ⟨o1, _⟩, ⟨q1, q2, q3, q4⟩, _⟩ := KA.nes k.nd
  exact k.part (by simp [KA.all]) (fun z => absurd z.symm n3) (fun _ => rfl) (fun z => absurd z.symm m2) (fun _ => rfl) (fun z => absurd z.symm o1) (fun _ => rfl) (fun _ => ⟨_, rfl, h⟩) (fun z => absurd rfl z) (fun z => absurd z q1) (fun _ => rfl) (fun z => absurd z q2) (fun _ => rfl) (fun z => absurd z q3) (fun _ => rfl) q4
theorem KindsAt.setU (k : KindsAt C K M H a t) {kvs : List (Key × V)} {l : List (Str × KSet)} (h : DK K (hide M H) kvs l) : KindsAt C K M (upd H a.u (.dK kvs)) a { t with uppers := l } := by
  obtain ⟨⟨_, _, _, n4, _⟩, ⟨_, _, m3, _⟩, ⟨_, o2, _⟩, ⟨q1, _⟩, ⟨r1, r2, r3⟩, _⟩ := KA.nes k.nd
  exact k.part (by simp [KA.all]) (fun z => absurd z.symm n4) (fun _ => rfl) (fun z => absurd z.symm m3) (fun _ => rfl) (fun z => absurd z.symm o2) (fun _ => rfl) (fun z => absurd z.symm q1) (fun _ => rfl) (fun _ => ⟨_, rfl, h⟩) (fun z => absurd rfl z) (fun z => absurd z r1) (fun _ => rfl) (fun z => absurd z r2) (fun _ => rfl) r3
theorem KindsAt.setH (k : KindsAt C K M H a t) {kvs : List (Key × V)} {l : List (Str × Str)} (h : DK K (hide M H) kvs l) : KindsAt C K M (upd H a.h (.dK kvs)) a { t with homes := l } := by
  obtain ⟨⟨_, _, _, _, n5, _⟩, ⟨_, _, _, m4, _⟩, ⟨_, _, o3, _⟩, ⟨_, q2, _⟩, ⟨r1, _⟩, ⟨s1, s2⟩, _⟩ := KA.nes k.nd
  exact k.part (by simp [KA.all]) (fun z => absurd z.symm n5) (fun _ => rfl) (fun z => absurd z.symm m4) (fun _ => rfl) (fun z => absurd z.symm o3) (fun _ => rfl) (fun z => absurd z.symm q2) (fun _ => rfl) (fun z => absurd z.symm r1) (fun _ => rfl) (fun _ => ⟨_, rfl, h⟩) (fun z => absurd rfl z) (fun z => absurd z s1) (fun _ => rfl) s2
theorem KindsAt.setW (k : KindsAt C K M H a t) (l : PTab) : KindsAt C K M (upd H a.w (.dT (ltab l))) a { t with lowest := l } := by
  obtain ⟨⟨_, _, _, _, _, n6, _⟩, ⟨_, _, _, _, m5, _⟩, ⟨_, _, _, o4, _⟩, ⟨_, _, q3, _⟩, ⟨_, r2, _⟩, ⟨s1, _⟩, u1⟩ := KA.nes k.nd
  exact k.part (by simp [KA.all]) (fun z => absurd z.symm n6) (fun _ => rfl) (fun z => absurd z.symm m5) (fun _ => rfl) (fun z => absurd z.symm o4) (fun _ => rfl) (fun z => absurd z.symm q3) (fun _ => rfl) (fun z => absurd z.symm r2) (fun _ => rfl) (fun z => absurd z.symm s1) (fun _ => rfl) (fun _ => rfl) (fun z => absurd rfl z) u1
theorem KindsAt.dom (k : KindsAt C K M H a t) : ∀ x ∈ a.p :: a.all, ∃ o, H x = some o := by
  obtain ⟨r, hr, _⟩ := k.hr
  obtain ⟨s, hs, _⟩ := k.hs
  obtain ⟨l, hl, _⟩ := k.hl
  obtain ⟨u, hu, _⟩ := k.hu
  obtain ⟨h, hh, _⟩ := k.hh
  intro x hx
  simp only [KA.all, List.mem_cons, List.not_mem_nil, or_false] at hx
  rcases hx with rfl | rfl | rfl | rfl | rfl | rfl | rfl | rfl | rfl
  · exact ⟨_, k.hp⟩
  · exact ⟨_, k.ho⟩
  · exact ⟨_, hr⟩
  · exact ⟨_, hs⟩
  · exact ⟨_, hl⟩
  · exact ⟨_, hu⟩
  · exact ⟨_, hh⟩
  · exact ⟨_, k.hw⟩
  · exact ⟨_, k.hm⟩
end
/-! ### what enters -/
def aSetd {β : Type} (kv : List (Str × β)) (k : Str) (b : β) : List (Str × β) := if (aGet kv k).isSome = true then kv else kv ++ [(k, b)]
def upsOf (t : Tab) (up : Str) : List Str := ((aGet t.uppers up).map KSet.ks).getD []
def aboveOf (t : Tab) (ups : List Str) : List Str := unionK ups (upsOf t)
def lowsOf (lw : PTab) (ab : List Str) (n : Str) : PTab := ab.foldl (fun lw x => ab.foldl (fun lw y => tSetd lw x y n) lw) lw
def enterT (t : Tab) (n : Str) (ups : List Str) (told lets : Dct Str) : Tab where
  order := t.order ++ [n]
  right := aPut t.right n ups
  spoken := aPut t.spoken n told
  lets := aPut t.lets n lets
  uppers := aPut t.uppers n ⟨addS (aboveOf t ups) n⟩
  homes := (told.kv.map (·.1)).foldl (fun h r => aSetd h r n) t.homes
  lowest := lowsOf t.lowest (addS (aboveOf t ups) n) n
theorem dk_setd {β : Type} [Enc β] {K : PySem.W.Frag} {H : Hp} {kvs : List (Key × V)} {kv : List (Str × β)} (h : DK K H kvs kv) {k : Str} {v : V} {b : β} (d : den K H v b) :
    (∀ u, valV kvs (Sum.inr k : Key) = some u → aSetd kv k b = kv) ∧ (valV kvs (Sum.inr k : Key) = none → DK K H (putK kvs (Sum.inr k) v) (aSetd kv k b)) := by
  have e := h.isSome k
  refine ⟨fun u hu => ?_, fun hn => ?_⟩
  · rw [hu] at e
    exact if_pos e.symm
  · rw [hn] at e
    rw [putK_new v hn]
    unfold aSetd
    rw [if_neg (by rw [← e]; exact Bool.false_ne_true)]
    exact h.app (.cons ⟨rfl, d⟩ .nil)
def SmallT (t : Tab) : Prop := t.order.length ≤ 1000 ∧ t.right.length ≤ 1000 ∧ t.spoken.length ≤ 1000 ∧ t.lets.length ≤ 1000 ∧ t.uppers.length ≤ 1000 ∧ t.homes.length ≤ 10000 ∧ t.lowest.length ≤ 10000
def spEnter (C : Addr) (K : PySem.W.Frag) : Sp := fun vs H Q _ => ∃ (M : List Addr) (a : KA) (t : Tab) (vn vu vt vl : V) (n : Str) (ups : List Str) (told lets : Dct Str), vs = [.ref a.p, vn, vu, vt, vl] ∧ Dom M H ∧ KindsAt C K M H a t ∧ den K (hide M H) vn n ∧ den K (hide M H) vu ups ∧ den K (hide M H) vt told ∧ den K (hide M H) vl lets ∧
  SmallT t ∧ (∀ up ∈ ups, (aGet t.uppers up).isSome = true) ∧ (ups.flatMap (upsOf t)).length ≤ 10000 ∧ told.kv.length ≤ 1000 ∧ (aboveOf t ups).length ≤ 200 ∧
  ∀ H', KindsAt C K M H' a (enterT t n ups told lets) → Bt a.all H H' → Dom M H' → Q .non H'
end Tm
set_option maxHeartbeats 4000000
namespace Tm
open PySem PySem.Spec PyProof.Rows L2 Pl
open Enc (den)
theorem tSetd_len (lw : PTab) (x y n : Str) : (tSetd lw x y n).length ≤ lw.length + 1 := by
  unfold tSetd
  split
  · omega
  · rw [List.length_append]
    exact Nat.le_refl _
theorem fold_tSetd_len (n x : Str) : ∀ (l : List Str) (lw : PTab), (l.foldl (fun lw y => tSetd lw x y n) lw).length ≤ lw.length + l.length
  | [], lw => Nat.le_refl _
  | y :: l, lw => by
    have h1 := fold_tSetd_len n x l (tSetd lw x y n)
    have h2 := tSetd_len lw x y n
    rw [List.foldl_cons, List.length_cons]
    omega
theorem fold_lows_len (n : Str) (ab : List Str) : ∀ (l : List Str) (lw : PTab), (l.foldl (fun lw x => ab.foldl (fun lw y => tSetd lw x y n) lw) lw).length ≤ lw.length + l.length * ab.length
  | [], lw => by simp
  | x :: l, lw => by
    have h1 := fold_lows_len n ab l (ab.foldl (fun lw y => tSetd lw x y n) lw)
    have h2 := fold_tSetd_len n x ab lw
    rw [List.foldl_cons, List.length_cons, Nat.succ_mul]
    omega
theorem aSetd_len {β : Type} (kv : List (Str × β)) (k : Str) (b : β) : (aSetd kv k b).length ≤ kv.length + 1 := by
  unfold aSetd
  split
  · omega
  · rw [List.length_append]
    exact Nat.le_refl _
theorem fold_aSetd_len {β : Type} (b : β) : ∀ (l : List Str) (kv : List (Str × β)), (l.foldl (fun h r => aSetd h r b) kv).length ≤ kv.length + l.length
  | [], kv => Nat.le_refl _
  | y :: l, kv => by
    have h1 := fold_aSetd_len b l (aSetd kv y b)
    have h2 := aSetd_len kv y b
    rw [List.foldl_cons, List.length_cons]
    omega
theorem foldl_take {α β : Type} {l : List α} {f : β → α → β} {b : β} {i : Nat} {x : α} (h : l[i]? = some x) : (l.take (i + 1)).foldl f b = f ((l.take i).foldl f b) x := by
  rw [List.take_add_one, h, List.foldl_append]
  rfl
section
variable {P : Program} {w : World} {K : PySem.W.Frag} {mg : Str → Option Value} {base : Heap} {f C : Addr} {fd : FuncData}
abbrev nEnter : List Str := ["self", "name", "ups", "told", "lets", "above", "room", "one", "other", "far", "up"]
theorem sc_enter : FnScope nEnter ["self", "name", "ups", "told", "lets"] (defScope s_Kinds_enter) := ⟨rfl, rfl, rfl, by decide +kernel, rfl, by decide +kernel, by decide +kernel⟩
theorem ok_enter (F : Fd K "enter" "Kinds.enter" s_Kinds_enter f fd) (c : KC K C) : FnOk P w K mg base (L2.CX P w) 1 f fd ["self", "name", "ups", "told", "lets"] (spEnter C K) := by
  refine F.ok sc_enter (fun vs H Q E h => ?_) (fun cdv A outer s H vs Q E hr h => ⟨_, pbw, ?_⟩)
  · obtain ⟨M, a, t, vn, vu, vt, vl, n, ups, told, lets, rfl, _⟩ := h
    rfl
  obtain ⟨M, a, t, vn, vu, vt, vl, n, ups, told, lets, rfl, dm, ka, dn, du, dt, dl, ⟨z1, z2, z3, z4, z5, z6, z7⟩, hup, hz, htl, hab, k⟩ := h
  have dn' : vn = .str n := dn
  subst dn'
  have inA : ∀ x ∈ a.all, x ∈ M := fun x hx => ka.inM x (List.mem_cons_of_mem _ hx)
  have mo : a.o ∈ a.all := by simp [KA.all]
  have mr : a.r ∈ a.all := by simp [KA.all]
  have ms : a.s ∈ a.all := by simp [KA.all]
  have ml : a.l ∈ a.all := by simp [KA.all]
  have mu : a.u ∈ a.all := by simp [KA.all]
  have mh : a.h ∈ a.all := by simp [KA.all]
  have mw : a.w ∈ a.all := by simp [KA.all]
  -- self.order.append(name)
  refine wb_exprW (we_append dm (ve_order c ka (ve_raw 0 rfl)) (ve_var 1 (y := n) rfl rfl) ka.ho (by rw [List.length_map]; omega) fun v H1 e1 dv => ?_)
  rw [show v = .str n from dv, show t.order.map V.str ++ [V.str n] = (t.order ++ [n]).map V.str by rw [List.map_append]; rfl]
  have k1 : KindsAt C K M _ a ⟨t.order ++ [n], t.right, t.spoken, t.lets, t.uppers, t.homes, t.lowest⟩ := (ka.ex e1).setO (t.order ++ [n])
  have b1 : Bt a.all H (upd H1 a.o (.lst ((t.order ++ [n]).map V.str))) := (Bt.ex e1).up mo
  generalize upd H1 a.o (.lst ((t.order ++ [n]).map V.str)) = G1 at k1 b1
  have up : ∀ {G : Hp}, Bt a.all H G → (∀ x ∈ a.p :: a.all, ∃ o, G x = some o) → Dom M G := fun b d => b.dom dm fun x hx => d x (List.mem_cons_of_mem _ hx)
  have d1 : Dom M G1 := up b1 k1.dom
  -- self.right[name] = ups
  obtain ⟨kr, hr1, hr2⟩ := k1.hr
  refine wb_dset (un1 hr) d1 (ve_var 2 rfl (Enc.mono (b1.hide inA) du)) (ve_right c k1 (ve_raw 0 rfl)) (ve_var 1 (y := n) rfl rfl) hr1 (by rw [hr2.len]; show t.right.length < _; omega) fun v H2 e2 dv => ?_
  have k2 : KindsAt C K M _ a ⟨t.order ++ [n], aPut t.right n ups, t.spoken, t.lets, t.uppers, t.homes, t.lowest⟩ := (k1.ex e2).setR (DK.put (hr2.mono (Ex.hide e2)) n dv)
  have b2 : Bt a.all H (upd H2 a.r (.dK (putK kr (Sum.inr n) v))) := (b1.tr (Bt.ex e2)).up mr
  generalize upd H2 a.r (.dK (putK kr (Sum.inr n) v)) = G2 at k2 b2
  have d2 : Dom M G2 := up b2 k2.dom
  -- self.spoken[name] = told
  obtain ⟨ks, hs1, hs2⟩ := k2.hs
  refine wb_dset (un1 hr) d2 (ve_var 3 rfl (Enc.mono (b2.hide inA) dt)) (ve_spoken c k2 (ve_raw 0 rfl)) (ve_var 1 (y := n) rfl rfl) hs1 (by rw [hs2.len]; show t.spoken.length < _; omega) fun v H3 e3 dv => ?_
  have k3 : KindsAt C K M _ a ⟨t.order ++ [n], aPut t.right n ups, aPut t.spoken n told, t.lets, t.uppers, t.homes, t.lowest⟩ := (k2.ex e3).setS (DK.put (hs2.mono (Ex.hide e3)) n dv)
  have b3 : Bt a.all H (upd H3 a.s (.dK (putK ks (Sum.inr n) v))) := (b2.tr (Bt.ex e3)).up ms
  generalize upd H3 a.s (.dK (putK ks (Sum.inr n) v)) = G3 at k3 b3
  have d3 : Dom M G3 := up b3 k3.dom
  -- self.lets[name] = lets
  obtain ⟨kl, hl1, hl2⟩ := k3.hl
  refine wb_dset (un1 hr) d3 (ve_var 4 rfl (Enc.mono (b3.hide inA) dl)) (ve_lets c k3 (ve_raw 0 rfl)) (ve_var 1 (y := n) rfl rfl) hl1 (by rw [hl2.len]; show t.lets.length < _; omega) fun v H4 e4 dv => ?_
  have k4 : KindsAt C K M _ a ⟨t.order ++ [n], aPut t.right n ups, aPut t.spoken n told, aPut t.lets n lets, t.uppers, t.homes, t.lowest⟩ := (k3.ex e4).setL (DK.put (hl2.mono (Ex.hide e4)) n dv)
  have b4 : Bt a.all H (upd H4 a.l (.dK (putK kl (Sum.inr n) v))) := (b3.tr (Bt.ex e4)).up ml
  generalize upd H4 a.l (.dK (putK kl (Sum.inr n) v)) = G4 at k4 b4
  have d4 : Dom M G4 := up b4 k4.dom
  -- above = {far: True for up in ups for far in self.uppers[up]}
  refine wb_setDc2 (i := 5) (ja := 10) (jb := 9) (f := upsOf t) rfl sc_enter.nd d4 (vi_list (ve_var 2 rfl (Enc.mono (b4.hide inA) du))) (blkOk_by (N := nEnter) (sc := defScope s_Kinds_enter) (by decide +kernel)) (by omega) (fun q s' H0 C' cl fp H5 v x hq e5 d5 eh hx dx => ?_) fun D G5 hD e5 d5 h5 => ?_
  · have k5 := k4.more hq e5
    obtain ⟨ku, hu1, hu2⟩ := k5.hu
    have hs := hup x hx
    cases hg : aGet t.uppers x with
    | none => rw [hg] at hs; cases hs
    | some y =>
      have ey : upsOf t x = y.ks := by unfold upsOf; rw [hg]; rfl
      rw [ey]
      exact vi_kset (ve_dgetM (un1 hr) (ve_uppers c k5 (ve_raw 0 rfl)) (ve_var 10 (y := x) rfl dx) hu1 hu2 hg)
  have k5 := k4.ex e5
  have b5 : Bt a.all H G5 := b4.tr (Bt.ex e5)
  -- above[name] = True
  have hlen5 : (tru (unionK ups (upsOf t))).length < 90000 := by rw [tru_len]; show (aboveOf t ups).length < 90000; omega
  refine wb_dset (un1 hr) (M := M) d5 ve_bl (ve_raw 5 rfl) (ve_var 1 (y := n) rfl rfl) h5 hlen5 fun v H6 e6 dv => ?_
  rw [show v = .bl true from dv, tru_put]
  have hDM : D ∉ M := d4.fresh hD
  generalize hab' : addS (unionK ups (upsOf t)) n = ab
  have hablen : ab.length ≤ 201 := by
    rw [← hab']
    have := addS_len (unionK ups (upsOf t)) n
    have h2 : (unionK ups (upsOf t)).length ≤ 200 := hab
    omega
  refine wb_frz (d := D) (u := .dK (tru ab)) upd_same trivial fun od => ?_
  have e47 : Ex G4 (upd (upd H6 D (.dK (tru ab))) D (.frz od (.dK (tru ab)))) := fun x o hx => by
    have hn : x ≠ D := ne_of_none hx hD
    rw [upd_ne hn, upd_ne hn]
    exact e6 x o (e5 x o hx)
  have h7 : (upd (upd H6 D (.dK (tru ab))) D (.frz od (.dK (tru ab)))) D = some (.frz od (.dK (tru ab))) := upd_same
  generalize upd (upd H6 D (.dK (tru ab))) D (.frz od (.dK (tru ab))) = G7 at e47 h7
  have k7 := k4.ex e47
  have b7 : Bt a.all H G7 := b4.tr (Bt.ex e47)
  have d7 : Dom M G7 := d4.ex e47
  have dD : den K (hide M G7) (.ref D) (⟨ab⟩ : KSet) := ⟨D, od, rfl, by rw [hide_out hDM]; exact h7⟩
  -- self.uppers[name] = above
  obtain ⟨ku, hu1, hu2⟩ := k7.hu
  refine wb_dset (un1 hr) d7 (ve_var 5 (y := (⟨ab⟩ : KSet)) rfl dD) (ve_uppers c k7 (ve_raw 0 rfl)) (ve_var 1 (y := n) rfl rfl) hu1 (by rw [hu2.len]; show t.uppers.length < _; omega) fun v H8 e8 dv => ?_
  have k8 : KindsAt C K M _ a ⟨t.order ++ [n], aPut t.right n ups, aPut t.spoken n told, aPut t.lets n lets, aPut t.uppers n ⟨ab⟩, t.homes, t.lowest⟩ := (k7.ex e8).setU (DK.put (hu2.mono (Ex.hide e8)) n dv)
  have b8 : Bt a.all H (upd H8 a.u (.dK (putK ku (Sum.inr n) v))) := (b7.tr (Bt.ex e8)).up mu
  have b78 : Bt a.all G7 (upd H8 a.u (.dK (putK ku (Sum.inr n) v))) := (Bt.ex e8).up mu
  generalize upd H8 a.u (.dK (putK ku (Sum.inr n) v)) = G8 at k8 b8 b78
  have d8 : Dom M G8 := up b8 k8.dom
  have dD8 : den K (hide M G8) (.ref D) (⟨ab⟩ : KSet) := Enc.mono (b78.hide inA) dD
  have dt8 : den K (hide M G8) vt told := Enc.mono (b8.hide inA) dt
  -- for room in told: self.homes.setdefault(room, name)
  refine wb_for owns_cx rfl d8 (vi_keys (ve_var 3 rfl dt8)) (pg_name (i := 6) sc_enter.nd rfl (.inl rfl))
    (fun G9 i σ' H' => Bt a.all G8 H' ∧ Bt a.all G9 H' ∧ KindsAt C K M H' a ⟨t.order ++ [n], aPut t.right n ups, aPut t.spoken n told, aPut t.lets n lets, aPut t.uppers n ⟨ab⟩, ((told.kv.map (·.1)).take i).foldl (fun h r => aSetd h r n) t.homes, t.lowest⟩ ∧ ∃ v6, σ' = [some (.ref a.p), some (.str n), some vu, some vt, some vl, some (.ref D), v6, none, none, none, none])
    (fun G9 e9 => ⟨Bt.ex e9, Bt.ex Ex.rfl', k8.ex e9, none, rfl⟩) (fun G9 i σ' H' e9 p => ⟨p.2.1.sub inA, (b8.tr p.1).dom dm fun x hx => p.2.2.1.dom x (List.mem_cons_of_mem _ hx)⟩) ?_ ?_
  · rintro G9 i x vx _ Ha Hb e9 hx ⟨p1, p2, kx, v6, rfl⟩ eb dx
    have kx' := kx.ex eb
    have dmb : Dom M Hb := (b8.tr (p1.tr (Bt.ex eb))).dom dm fun x hx => kx'.dom x (List.mem_cons_of_mem _ hx)
    obtain ⟨kh, hh1, hh2⟩ := kx'.hh
    have hlh : kh.length < 90000 := by
      rw [hh2.len]
      have h1 := fold_aSetd_len n ((told.kv.map (·.1)).take i) t.homes
      have h2 : ((told.kv.map (·.1)).take i).length ≤ told.kv.length := by rw [List.length_take, List.length_map]; omega
      show (((told.kv.map (·.1)).take i).foldl (fun h r => aSetd h r n) t.homes).length < 90000
      omega
    refine wb_exprW (we_setd dmb (ve_homes c kx' (ve_raw 0 rfl)) (ve_var 6 (y := x) rfl dx) (ve_var 1 (y := n) rfl rfl) hh1 hlh fun v H9 e10 dv => ?_)
    have hs := dk_setd (hh2.mono (Ex.hide e10)) (k := x) dv
    refine ⟨fun u hu => wb_nil ⟨p1.tr (Bt.ex (Ex.tr eb e10)), p2.tr (Bt.ex (Ex.tr eb e10)), ?_, _, rfl⟩, fun hn => wb_nil ⟨(p1.tr (Bt.ex (Ex.tr eb e10))).up mh, (p2.tr (Bt.ex (Ex.tr eb e10))).up mh, ?_, _, rfl⟩⟩
    · have := hs.1 u hu
      rw [foldl_take hx]
      show KindsAt C K M H9 a ⟨_, _, _, _, _, aSetd (((told.kv.map (·.1)).take i).foldl (fun h r => aSetd h r n) t.homes) x n, _⟩
      rw [this]
      exact kx'.ex e10
    · rw [foldl_take hx]
      exact (kx'.ex e10).setH (hs.2 hn)
  rintro G9 _ Ha e9 ⟨p1, p2, kx, v6, rfl⟩
  rw [List.take_length] at kx
  generalize hhm : (told.kv.map (·.1)).foldl (fun h r => aSetd h r n) t.homes = hm at kx
  have ba : Bt a.all H Ha := b8.tr p1
  have da : Dom M Ha := up ba kx.dom
  have dDa : den K (hide M Ha) (.ref D) (⟨ab⟩ : KSet) := Enc.mono (p1.hide inA) dD8
  -- for one in above: for other in above: self.lowest.setdefault((one, other), name)
  refine wb_for owns_cx rfl da (vi_kset (t := ⟨ab⟩) (ve_var 5 rfl dDa)) (pg_name (i := 7) sc_enter.nd rfl (.inl rfl))
    (fun G i σ' H' => Bt a.all Ha H' ∧ Bt a.all G H' ∧ KindsAt C K M H' a ⟨t.order ++ [n], aPut t.right n ups, aPut t.spoken n told, aPut t.lets n lets, aPut t.uppers n ⟨ab⟩, hm, (ab.take i).foldl (fun lw x => ab.foldl (fun lw y => tSetd lw x y n) lw) t.lowest⟩ ∧ ∃ v6 v7 v8, σ' = [some (.ref a.p), some (.str n), some vu, some vt, some vl, some (.ref D), v6, v7, v8, none, none])
    (fun G e => ⟨Bt.ex e, Bt.ex Ex.rfl', kx.ex e, _, none, none, rfl⟩) (fun G i σ' H' e p => ⟨p.2.1.sub inA, (ba.tr p.1).dom dm fun x hx => p.2.2.1.dom x (List.mem_cons_of_mem _ hx)⟩) ?_ ?_
  · rintro G i x vx _ Hb Hc eG hx ⟨p3, p4, ky, v6, v7, v8, rfl⟩ ec dx
    have ky' := ky.ex ec
    have bc : Bt a.all Ha Hc := p3.tr (Bt.ex ec)
    have dc : Dom M Hc := (ba.tr bc).dom dm fun x hx => ky'.dom x (List.mem_cons_of_mem _ hx)
    have dDc : den K (hide M Hc) (.ref D) (⟨ab⟩ : KSet) := Enc.mono (bc.hide inA) dDa
    have hl0 : ((ab.take i).foldl (fun lw x => ab.foldl (fun lw y => tSetd lw x y n) lw) t.lowest).length ≤ 10000 + 201 * 201 := by
      have h1 := fold_lows_len n ab (ab.take i) t.lowest
      have h2 : (ab.take i).length ≤ 201 := by rw [List.length_take]; omega
      have h3 : (ab.take i).length * ab.length ≤ 201 * 201 := Nat.mul_le_mul h2 hablen
      omega
    generalize hlw : (ab.take i).foldl (fun lw x => ab.foldl (fun lw y => tSetd lw x y n) lw) t.lowest = lw at ky' hl0
    refine wb_for owns_cx rfl dc (vi_kset (t := ⟨ab⟩) (ve_var 5 rfl dDc)) (pg_name (i := 8) sc_enter.nd rfl (.inl rfl))
      (fun G' j σ' H' => Bt a.all Hc H' ∧ Bt a.all G' H' ∧ KindsAt C K M H' a ⟨t.order ++ [n], aPut t.right n ups, aPut t.spoken n told, aPut t.lets n lets, aPut t.uppers n ⟨ab⟩, hm, (ab.take j).foldl (fun lw y => tSetd lw x y n) lw⟩ ∧ ∃ v8, σ' = [some (.ref a.p), some (.str n), some vu, some vt, some vl, some (.ref D), v6, some vx, v8, none, none])
      (fun G' e => ⟨Bt.ex e, Bt.ex Ex.rfl', ky'.ex e, _, rfl⟩) (fun G' j σ' H' e p => ⟨p.2.1.sub inA, (ba.tr (bc.tr p.1)).dom dm fun x hx => p.2.2.1.dom x (List.mem_cons_of_mem _ hx)⟩) ?_ ?_
    · rintro G' j y vy _ Hd He eG' hy ⟨q1, q2, kz, v8', rfl⟩ ee dy
      have kz' := kz.ex ee
      have de : Dom M He := (ba.tr (bc.tr (q1.tr (Bt.ex ee)))).dom dm fun x hx => kz'.dom x (List.mem_cons_of_mem _ hx)
      have hl1 : ((ab.take j).foldl (fun lw y => tSetd lw x y n) lw).length < 90000 := by
        have h1 := fold_tSetd_len n x (ab.take j) lw
        have h2 : (ab.take j).length ≤ 201 := by rw [List.length_take]; omega
        omega
      refine wb_exprW (we_lsetd (M := M) (un1 hr) de (ve_lowest c kz' (ve_raw 0 rfl)) (ve_var 7 (y := x) rfl dx) (ve_var 8 (y := y) rfl dy) (ve_var 1 (y := n) rfl rfl) kz'.hw hl1 fun v H1' H2' e1' h2' hoff => ?_)
      have eu : H2' = upd H1' a.w (.dT (ltab (tSetd ((ab.take j).foldl (fun lw y => tSetd lw x y n) lw) x y n))) := by
        funext z
        by_cases hz' : z = a.w
        · rw [hz', upd_same]
          exact h2'
        · rw [upd_ne hz', hoff z hz']
      rw [eu]
      refine wb_nil ⟨(q1.tr (Bt.ex (Ex.tr ee e1'))).up mw, (q2.tr (Bt.ex (Ex.tr ee e1'))).up mw, ?_, _, rfl⟩
      rw [foldl_take hy]
      exact (kz'.ex e1').setW _
    · rintro G' _ Hd eG' ⟨q1, q2, kz, v8', rfl⟩
      rw [List.take_length] at kz
      refine wb_nil ⟨bc.tr q1, (p4.tr (Bt.ex ec)).tr q1, ?_, _, _, _, rfl⟩
      rw [foldl_take hx, hlw]
      exact kz
  · rintro G _ Hb eG ⟨p3, p4, ky, v6, v7, v8, rfl⟩
    rw [List.take_length] at ky
    refine wb_nil (k Hb ?_ (ba.tr p3) (up (ba.tr p3) ky.dom))
    unfold enterT
    show KindsAt C K M Hb a ⟨_, _, _, _, aPut t.uppers n ⟨addS (unionK ups (upsOf t)) n⟩, (told.kv.map (·.1)).foldl (fun h r => aSetd h r n) t.homes, lowsOf t.lowest (addS (unionK ups (upsOf t)) n) n⟩
    rw [hab', hhm]
    exact ky
end
end Tm
set_option maxHeartbeats 4000000
namespace Tm
open PySem PySem.Spec PyProof.Rows L2 Pl
open Enc (den)
section
variable {X : Cx} {W : WX} {M : List Addr} {σ : L2.St} {H H' : Hp} {e o a b c d : Expr} {es : List Expr} {pos p apos : Pos} {α β γ δ ε : Type} [Enc α] [Enc β] [Enc γ] [Enc δ] {m : Str} {k : Nat} {sp : Sp} {Q : VK}
theorem we_methV {pl : Sem Bool} {C q dx : Addr} {fs : List (Str × V)} (tk : Takes X W) (cl : Cls X.K C) (F : ME X.prog X.w X.K X.mg X.base C m k sp) (hr : Room k X.A) (dm : Dom M H) (ho : VE X M σ H o (V.ref q)) (hq : H q = some (.ins C dx fs)) (hl : fs.lookup m = none)
    (h : ∀ H1, Ex H H1 → WA X (e :: es) σ H1 fun vs H2 => sp (.ref q :: vs) H2 Q fun cls d H3 => W cls d σ H3)
    (hst : starEach (e :: es) X.env = (false, eval e X.env) :: starEach es X.env := by rfl) (hpl : (backTo pos (starEach es X.env)).any (·.1) = false := by rfl)
    (ht : eval (.Call (.Attribute o m apos) (e :: es) [] pos) X.env = (do
      let ov ← eval o X.env
      standAt apos.atName
      let (f, first) ← holding [ov] (getMethod ov m pl)
      callWith pos f first (backTo pos (starEach (e :: es) X.env)) (backToKw pos (keywordEach [] X.env))) := by rfl) : WE X (.Call (.Attribute o m apos) (e :: es) [] pos) σ H Q :=
  we_meth tk cl F hr (ho H Ex.rfl' dm _ fun v H1 e1 dv => ⟨q, dx, fs, dv, e1 q _ hq, hl, h H1 e1⟩) hst hpl ht
theorem we_methV0 {pl : Sem Bool} {C q dx : Addr} {fs : List (Str × V)} (tk : Takes X W) (cl : Cls X.K C) (F : ME X.prog X.w X.K X.mg X.base C m k sp) (hr : Room k X.A) (dm : Dom M H) (ho : VE X M σ H o (V.ref q)) (hq : H q = some (.ins C dx fs)) (hl : fs.lookup m = none)
    (h : ∀ H1, Ex H H1 → sp [.ref q] H1 Q fun cls d H3 => W cls d σ H3)
    (ht : eval (.Call (.Attribute o m apos) [] [] pos) X.env = (do
      let ov ← eval o X.env
      standAt apos.atName
      let (f, first) ← holding [ov] (getMethod ov m pl)
      callWith pos f first (backTo pos (starEach [] X.env)) (backToKw pos (keywordEach [] X.env))) := by rfl) : WE X (.Call (.Attribute o m apos) [] [] pos) σ H Q :=
  we_meth0 tk cl F hr (ho H Ex.rfl' dm _ fun v H1 e1 dv => ⟨q, dx, fs, dv, e1 q _ hq, hl, h H1 e1⟩) ht
theorem wa1 {x : α} {Q : List V → Hp → Prop} (dm : Dom M H) (ha : VE X M σ H a x) (k : ∀ v H1, Ex H H1 → den X.K (hide M H1) v x → Q [v] H1) (h1 : starEach [a] X.env = (false, eval a X.env) :: starEach [] X.env := by rfl) : WA X [a] σ H Q :=
  wa_of (pa_cons pw pa_nil h1) (ha H Ex.rfl' dm _ k)
theorem wa2 {x : α} {y : β} {Q : List V → Hp → Prop} (dm : Dom M H) (ha : VE X M σ H a x) (hb : VE X M σ H b y) (k : ∀ v u H1, Ex H H1 → den X.K (hide M H1) v x → den X.K (hide M H1) u y → Q [v, u] H1)
    (h1 : starEach [a, b] X.env = (false, eval a X.env) :: starEach [b] X.env := by rfl) (h2 : starEach [b] X.env = (false, eval b X.env) :: starEach [] X.env := by rfl) : WA X [a, b] σ H Q :=
  wa_of (pa_cons pw (pa_cons pw pa_nil h2) h1) (two ha hb Ex.rfl' dm fun v u H1 e1 _ dv du => k v u H1 e1 dv du)
theorem wa3 {x : α} {y : β} {z : γ} {Q : List V → Hp → Prop} (dm : Dom M H) (ha : VE X M σ H a x) (hb : VE X M σ H b y) (hc : VE X M σ H c z) (k : ∀ v u t H1, Ex H H1 → den X.K (hide M H1) v x → den X.K (hide M H1) u y → den X.K (hide M H1) t z → Q [v, u, t] H1)
    (h1 : starEach [a, b, c] X.env = (false, eval a X.env) :: starEach [b, c] X.env := by rfl) (h2 : starEach [b, c] X.env = (false, eval b X.env) :: starEach [c] X.env := by rfl) (h3 : starEach [c] X.env = (false, eval c X.env) :: starEach [] X.env := by rfl) : WA X [a, b, c] σ H Q :=
  wa_of (pa_cons pw (pa_cons pw (pa_cons pw pa_nil h3) h2) h1) (two ha hb Ex.rfl' dm fun v u H1 e1 d1 dv du => hc H1 e1 d1 _ fun t H2 e2 dt => k v u t H2 (Ex.tr e1 e2) (Enc.mono (Ex.hide e2) dv) (Enc.mono (Ex.hide e2) du) dt)
theorem wa4 {x : α} {y : β} {z : γ} {w : δ} {Q : List V → Hp → Prop} (dm : Dom M H) (ha : VE X M σ H a x) (hb : VE X M σ H b y) (hc : VE X M σ H c z) (hd : VE X M σ H d w) (k : ∀ v u t r H1, Ex H H1 → den X.K (hide M H1) v x → den X.K (hide M H1) u y → den X.K (hide M H1) t z → den X.K (hide M H1) r w → Q [v, u, t, r] H1)
    (h1 : starEach [a, b, c, d] X.env = (false, eval a X.env) :: starEach [b, c, d] X.env := by rfl) (h2 : starEach [b, c, d] X.env = (false, eval b X.env) :: starEach [c, d] X.env := by rfl) (h3 : starEach [c, d] X.env = (false, eval c X.env) :: starEach [d] X.env := by rfl) (h4 : starEach [d] X.env = (false, eval d X.env) :: starEach [] X.env := by rfl) : WA X [a, b, c, d] σ H Q :=
  wa_of (pa_cons pw (pa_cons pw (pa_cons pw (pa_cons pw pa_nil h4) h3) h2) h1) (two ha hb Ex.rfl' dm fun v u H1 e1 d1 dv du => two (hc.mono e1) (hd.mono e1) Ex.rfl' d1 fun t r H2 e2 _ dt dr => k v u t r H2 (Ex.tr e1 e2) (Enc.mono (Ex.hide e2) dv) (Enc.mono (Ex.hide e2) du) dt dr)
end
/-- inherited, where no kind has a room -/
def spInh0 (C : Addr) (K : PySem.W.Frag) : Sp := fun vs H Q _ => ∃ (M : List Addr) (a : KA) (t : Tab) (vu : V) (ups : List Str), vs = [.ref a.p, vu] ∧ Dom M H ∧ KindsAt C K M H a t ∧ den K (hide M H) vu ups ∧ (∀ up ∈ ups, aGet t.lets up = some ⟨[]⟩) ∧ ∀ D H', H D = none → Ex H H' → H' D = some (.dK []) → Q (.ref D) H'
/-- told_rooms of no rooms -/
def spTold0 (C : Addr) (K : PySem.W.Frag) : Sp := fun vs H Q _ => ∃ (M : List Addr) (a : KA) (t : Tab) (vr va vi : V), vs = [.ref a.p, vr, va, vi] ∧ Dom M H ∧ KindsAt C K M H a t ∧ den K (hide M H) vr ([] : List (Str × Str)) ∧ ∀ D H', H D = none → Ex H H' → H' D = some (.dK []) → Q (.ref D) H'
/-- all_rooms of none -/
def spAll0 (C : Addr) (K : PySem.W.Frag) : Sp := fun vs H Q _ => ∃ (M : List Addr) (a : KA) (t : Tab) (vt vi : V), vs = [.ref a.p, vt, vi] ∧ Dom M H ∧ KindsAt C K M H a t ∧ den K (hide M H) vt (⟨[]⟩ : Dct Str) ∧ den K (hide M H) vi (⟨[]⟩ : Dct (List Str)) ∧ ∀ D H', H D = none → Ex H H' → H' D = some (.dK []) → Q (.ref D) H'
theorem srt_nil : srt [] = [] := List.eq_nil_of_length_eq_zero (by rw [(srt_perm []).length_eq]; rfl)
theorem srtKV_nil : srtKV [] = [] := List.eq_nil_of_length_eq_zero (by rw [(srtKV_perm []).length_eq]; rfl)
section
variable {P : Program} {w : World} {K : PySem.W.Frag} {mg : Str → Option Value} {base : Heap} {f C : Addr} {fd : FuncData}
abbrev nInh : List Str := ["self", "ups", "found", "up", "room", "kind"]
theorem sc_inh : FnScope nInh ["self", "ups"] (defScope s_Kinds_inherited) := ⟨rfl, rfl, rfl, by decide +kernel, rfl, by decide +kernel, by decide +kernel⟩
theorem ok_inh0 (F : Fd K "inherited" "Kinds.inherited" s_Kinds_inherited f fd) (c : KC K C) (hsorted : mg "sorted" = none) : FnOk P w K mg base (L2.CX P w) 1 f fd ["self", "ups"] (spInh0 C K) := by
  refine F.ok sc_inh (fun vs H Q E h => ?_) (fun cdv A outer s H vs Q E hr h => ⟨_, pbw, ?_⟩)
  · obtain ⟨M, a, t, vu, ups, rfl, _⟩ := h
    rfl
  obtain ⟨M, a, t, vu, ups, rfl, dm, ka, du, hup, k⟩ := h
  refine wb_setW (i := 2) sc_inh.nd (we_dnew fun D hD => ?_)
  have e0 : Ex H (upd H D (.dK [])) := Ex.new hD
  have h0 : (upd H D (.dK [])) D = some (.dK []) := upd_same
  generalize upd H D (.dK []) = H0 at e0 h0
  have dm0 := dm.ex e0
  refine wb_for owns_cx rfl dm0 (vi_list (ve_var 1 rfl (Enc.mono (Ex.hide e0) du))) (pg_name (i := 3) sc_inh.nd rfl (.inl rfl)) (fun H1 i σ' H' => Ex H1 H' ∧ ∃ v3, σ' = [some (.ref a.p), some vu, some (.ref D), v3, none, none])
    (fun H1 e1 => ⟨Ex.rfl', _, rfl⟩) (fun H1 i σ' H' e1 p => ⟨Bt.ex p.1, (dm0.ex e1).ex p.1⟩) ?_ ?_
  · rintro H1 i x vx _ Ha H2 e1 hx ⟨p1, v3, rfl⟩ ea dx
    have e2 : Ex H0 H2 := Ex.tr (Ex.tr e1 p1) ea
    have k2 := ka.ex (Ex.tr e0 e2)
    have dm2 := dm0.ex e2
    obtain ⟨kl, hl1, hl2⟩ := k2.hl
    refine wb_for owns_cx rfl dm2 (vi_list (ve_sortedItems hsorted rfl (ve_dgetM (un1 hr) (ve_lets c k2 (ve_raw 0 rfl)) (ve_var 3 (y := x) rfl dx) hl1 hl2 (hup x (List.mem_of_getElem? hx))) (by show 0 < 64; decide))) (pg_tup rfl (pgs_cons (pg_name (i := 4) sc_inh.nd rfl (.inl rfl)) (pgs_cons (pg_name (i := 5) sc_inh.nd rfl (.inl rfl)) pgs_nil)))
      (fun H3 j σ' H' => Ex H3 H' ∧ σ' = [some (.ref a.p), some vu, some (.ref D), some vx, none, none]) (fun H3 e3 => ⟨Ex.rfl', rfl⟩) (fun H3 j σ' H' e3 p => ⟨Bt.ex p.1, (dm2.ex e3).ex p.1⟩) ?_ ?_
    · rintro H3 j y vy σ3 Hb H4 e3 hy
      have hy' : (srtKV [])[j]? = some y := hy
      rw [srtKV_nil] at hy'
      cases hy'
    · rintro H3 _ H4 e3 ⟨q1, rfl⟩
      exact wb_nil ⟨Ex.tr (Ex.tr p1 ea) (Ex.tr e3 q1), _, rfl⟩
  · rintro H1 _ H2 e1 ⟨p1, v3, rfl⟩
    have e2 : Ex H0 H2 := Ex.tr e1 p1
    exact wb_ret (M := M) (dm0.ex e2) (ve_raw 2 rfl) fun u H3 e3 du => by
      rw [show u = .ref D from du]
      exact k D H3 hD (Ex.tr e0 (Ex.tr e2 e3)) (e3 D _ (e2 D _ h0))
abbrev nTold : List Str := ["self", "rooms", "above", "inherited", "found", "room", "kind", "let"]
theorem sc_told : FnScope nTold ["self", "rooms", "above", "inherited"] (defScope s_Kinds_told_rooms) := ⟨rfl, rfl, rfl, by decide +kernel, rfl, by decide +kernel, by decide +kernel⟩
theorem ok_told0 (F : Fd K "told_rooms" "Kinds.told_rooms" s_Kinds_told_rooms f fd) (c : KC K C) : FnOk P w K mg base (L2.CX P w) 1 f fd ["self", "rooms", "above", "inherited"] (spTold0 C K) := by
  refine F.ok sc_told (fun vs H Q E h => ?_) (fun cdv A outer s H vs Q E hr h => ⟨_, pbw, ?_⟩)
  · obtain ⟨M, a, t, vr, va, vi, rfl, _⟩ := h
    rfl
  obtain ⟨M, a, t, vr, va, vi, rfl, dm, ka, dr, k⟩ := h
  refine wb_setW (i := 4) sc_told.nd (we_dnew fun D hD => ?_)
  have e0 : Ex H (upd H D (.dK [])) := Ex.new hD
  have h0 : (upd H D (.dK [])) D = some (.dK []) := upd_same
  generalize upd H D (.dK []) = H0 at e0 h0
  have dm0 := dm.ex e0
  refine wb_for owns_cx rfl dm0 (vi_list (ve_var 1 rfl (Enc.mono (Ex.hide e0) dr))) (pg_tup rfl (pgs_cons (pg_name (i := 5) sc_told.nd rfl (.inl rfl)) (pgs_cons (pg_name (i := 6) sc_told.nd rfl (.inr rfl)) pgs_nil))) (fun H1 i σ' H' => Ex H1 H' ∧ σ' = [some (.ref a.p), some vr, some va, some vi, some (.ref D), none, none, none])
    (fun H1 e1 => ⟨Ex.rfl', rfl⟩) (fun H1 i σ' H' e1 p => ⟨Bt.ex p.1, (dm0.ex e1).ex p.1⟩) ?_ ?_
  · rintro H1 i x vx σ1 Ha H2 e1 hx
    cases hx
  · rintro H1 _ H2 e1 ⟨p1, rfl⟩
    have e2 : Ex H0 H2 := Ex.tr e1 p1
    exact wb_ret (M := M) (dm0.ex e2) (ve_raw 4 rfl) fun u H3 e3 du => by
      rw [show u = .ref D from du]
      exact k D H3 hD (Ex.tr e0 (Ex.tr e2 e3)) (e3 D _ (e2 D _ h0))
abbrev nAll : List Str := ["self", "told", "inherited", "found", "room", "low"]
theorem sc_all : FnScope nAll ["self", "told", "inherited"] (defScope s_Kinds_all_rooms) := ⟨rfl, rfl, rfl, by decide +kernel, rfl, by decide +kernel, by decide +kernel⟩
theorem ok_all0 (F : Fd K "all_rooms" "Kinds.all_rooms" s_Kinds_all_rooms f fd) (c : KC K C) (hsorted : mg "sorted" = none) (hdict : mg "dict" = none) : FnOk P w K mg base (L2.CX P w) 1 f fd ["self", "told", "inherited"] (spAll0 C K) := by
  refine F.ok sc_all (fun vs H Q E h => ?_) (fun cdv A outer s H vs Q E hr h => ⟨_, pbw, ?_⟩)
  · obtain ⟨M, a, t, vt, vi, rfl, _⟩ := h
    rfl
  obtain ⟨M, a, t, vt, vi, rfl, dm, ka, dt, di, k⟩ := h
  refine wb_setW (i := 3) sc_all.nd (we_of (pe_callTy call_dictD rfl hdict (by decide +kernel) (pa_cons (pv 1) pa_nil)) ⟨_, rfl, ?_⟩)
  obtain ⟨td, od, kvs, rfl, hl, hd⟩ := dt
  cases hd
  refine ⟨td, [], rfl, .inr ⟨od, (hide_some hl).2⟩, fun D hD => ?_⟩
  have e0 : Ex H (upd H D (.dK [])) := Ex.new hD
  have h0 : (upd H D (.dK [])) D = some (.dK []) := upd_same
  show WB _ _ _ _ (upd H D (.dK []))
  generalize upd H D (.dK []) = H0 at e0 h0
  have dm0 := dm.ex e0
  refine wb_for owns_cx rfl dm0 (vi_list (ve_sortedD hsorted rfl (ve_var 2 rfl (Enc.mono (Ex.hide e0) di)) (by show 0 < 64; decide))) (pg_name (i := 4) sc_all.nd rfl (.inl rfl)) (fun H1 i σ' H' => Ex H1 H' ∧ σ' = [some (.ref a.p), some (.ref td), some vi, some (.ref D), none, none])
    (fun H1 e1 => ⟨Ex.rfl', rfl⟩) (fun H1 i σ' H' e1 p => ⟨Bt.ex p.1, (dm0.ex e1).ex p.1⟩) ?_ ?_
  · rintro H1 i x vx σ1 Ha H2 e1 hx
    have hx' : (srt [])[i]? = some x := hx
    rw [srt_nil] at hx'
    cases hx'
  · rintro H1 _ H2 e1 ⟨p1, rfl⟩
    have e2 : Ex H0 H2 := Ex.tr e1 p1
    exact wb_ret (M := M) (dm0.ex e2) (ve_raw 3 rfl) fun u H3 e3 du => by
      rw [show u = .ref D from du]
      exact k D H3 hD (Ex.tr e0 (Ex.tr e2 e3)) (e3 D _ (e2 D _ h0))
end
end Tm
set_option maxHeartbeats 4000000
namespace Tm
open PySem PySem.Spec PyProof.Rows L2 Pl
open Enc (den)
/-- put of a kind without rooms, no kind with rooms, no fork, all ups there -/
def spPut1 (C CB CT : Addr) (K : PySem.W.Frag) : Sp := fun vs H Q E => ∃ (M : List Addr) (a : KA) (t : Tab) (vn vu vr : V) (n : Str) (ups : List Str), vs = [.ref a.p, vn, vu, vr] ∧ Dom M H ∧ KindsAt C K M H a t ∧ den K (hide M H) vn n ∧ den K (hide M H) vu ups ∧ den K (hide M H) vr ([] : List (Str × Str)) ∧ n.length ≤ 50000 ∧
  SmallT t ∧ t.order.length < 24 ∧ ups ≠ [] ∧ ups.length < 64 ∧ (∀ up ∈ ups, (aGet t.right up).isSome = true ∧ (aGet t.uppers up).isSome = true ∧ aGet t.lets up = some ⟨[]⟩) ∧ (ups.flatMap (upsOf t)).length ≤ 5000 ∧ (aboveOf t ups).length < 64 ∧ ((srt (uniq ups)).flatMap (upsOf t)).length ≤ 5000 ∧ (aboveOf t (srt (uniq ups))).length ≤ 200 ∧ forkOf t.lowest (aboveOf t ups) = none ∧
  (isName n = false → ∀ d H', H d = none → Ex H H' → H' d = some (.xd [("name", .str n), ("called", .str "BadName")]) → E (.ref CB) (some d) H') ∧
  (isName n = true → (aGet t.right n).isSome = true → ∀ d H', H d = none → Ex H H' → H' d = some (.xd [("name", .str n), ("called", .str "Taken")]) → E (.ref CT) (some d) H') ∧
  (isName n = true → (aGet t.right n).isSome = false → ∀ H', KindsAt C K M H' a (enterT t n (srt (uniq ups)) ⟨[]⟩ ⟨[]⟩) → Bt a.all H H' → Dom M H' → Q .non H')
theorem mem_addS {l : List Str} {x y : Str} : y ∈ addS l x ↔ y ∈ l ∨ y = x := by
  unfold addS
  split
  · exact ⟨.inl, fun h => h.elim id fun e => by rw [e]; assumption⟩
  · rw [List.mem_append, List.mem_singleton]
theorem mem_foldS {y : Str} : ∀ {l acc : List Str}, y ∈ l.foldl addS acc ↔ y ∈ acc ∨ y ∈ l
  | [], acc => by simp
  | x :: l, acc => by rw [List.foldl_cons, mem_foldS, mem_addS, List.mem_cons, or_assoc]
theorem mem_uniq {l : List Str} {y : Str} : y ∈ uniq l ↔ y ∈ l := by
  unfold uniq
  rw [mem_foldS]
  simp
theorem mem_srt {l : List Str} {y : Str} : y ∈ srt l ↔ y ∈ l := (srt_perm l).mem_iff
section
variable {P : Program} {w : World} {K : PySem.W.Frag} {mg : Str → Option Value} {base : Heap} {f C : Addr} {fd : FuncData}
abbrev nPut : List Str := ["self", "name", "ups", "rooms", "up", "above", "inherited", "told", "lets", "far"]
theorem sc_put : FnScope nPut ["self", "name", "ups", "rooms"] (defScope s_Kinds_put) := ⟨rfl, rfl, rfl, by decide +kernel, rfl, by decide +kernel, by decide +kernel⟩
theorem ok_put1 {dvs : List V} {kws : List (Str × V)} {CB CT CF : Addr} {tM : Tok} (F : FunD K "put" "Kinds.put" (defArgs s_Kinds_put) (defBody s_Kinds_put) (defScope s_Kinds_put) dvs kws f fd) (c : KC K C)
    (hsorted : mg "sorted" = none) (hset : mg "set" = none) (hlen : mg "len" = none) (hM : mg "MOST_KINDS" = some (.int 24 tM)) (eB : Er P w K mg base "BadName" ["name"] 2 CB) (eT : Er P w K mg base "Taken" ["name"] 2 CT)
    (fName : FN P w K mg base "is_name" 1 (spP1 K (fun z : Str => z.length ≤ 50000) isName)) (mNeed : ME P w K mg base C "need" 1 (spNeed1 C K)) (mFork : ME P w K mg base C "look_at_fork" 4 (spFork C CF K)) (mInh : ME P w K mg base C "inherited" 1 (spInh0 C K))
    (mTold : ME P w K mg base C "told_rooms" 1 (spTold0 C K)) (mAll : ME P w K mg base C "all_rooms" 1 (spAll0 C K)) (mEnter : ME P w K mg base C "enter" 1 (spEnter C K)) (mRound : ME P w K mg base C "goes_round" 1 (spRound0 C K)) :
    FnOk P w K mg base (L2.CX P w) 5 f fd ["self", "name", "ups", "rooms"] (spPut1 C CB CT K) := by
  refine F.ok sc_put (fun vs H Q E h => ?_) (fun cdv A outer s H vs Q E hr h => ⟨_, pbw, ?_⟩)
  · obtain ⟨M, a, t, vn, vu, vr, n, ups, rfl, _⟩ := h
    rfl
  obtain ⟨M, a, t, vn, vu, vr, n, ups, rfl, dm, ka, dn, du, dr, hn, hsm, ho24, hu0, hu64, hup, hz, hab, hz2, hab2, hfork, q1, q2, q3⟩ := h
  have dn' : vn = .str n := dn
  subst dn'
  have r1 := hr.mono (show 1 ≤ 4 by decide)
  have r3 := hr.mono (show 3 ≤ 4 by decide)
  -- if not is_name(name): raise BadName(name)
  refine wb_when dm (vt_not (vt_val (ve_call1 fName r1 (ve_var 1 (y := n) rfl rfl) hn))) (fun hy H1 e1 => ?_) fun hy H1 e1 => ?_
  · exact wb_raise1 takes_cx rfl eB r3 (dm.ex e1) (ve_var 1 (y := n) rfl rfl) fun v d H2 hd e2 dv hx => by
      rw [show v = .str n from dv] at hx
      exact q1 (by simpa using hy) d H2 (Ex.back e1 hd) (Ex.tr e1 e2) hx
  have hN : isName n = true := by simpa using hy
  have k1 := ka.ex e1
  have d1 := dm.ex e1
  obtain ⟨kr, hr1, hr2⟩ := k1.hr
  -- if name in self.right: raise Taken(name)
  refine wb_when d1 (vc_inDM (un1 hr) (ve_var 1 (y := n) rfl rfl) (ve_right c k1 (ve_raw 0 rfl)) hr1 hr2).vt (fun hy H2 e2 => ?_) fun hT H2 e2 => ?_
  · exact wb_raise1 takes_cx rfl eT r3 (d1.ex e2) (ve_var 1 (y := n) rfl rfl) fun v d H3 hd e3 dv hx => by
      rw [show v = .str n from dv] at hx
      exact q2 hN hy d H3 (Ex.back (Ex.tr e1 e2) hd) (Ex.tr (Ex.tr e1 e2) e3) hx
  have e02 := Ex.tr e1 e2
  have k2 := ka.ex e02
  have d2 := dm.ex e02
  -- if len(self.order) >= MOST_KINDS
  refine wb_when d2 (vc_ge (ve_lenM hlen (ve_order c k2 (ve_raw 0 rfl)) k2.ho) (ve_globI hM)).vt (fun hy => ?_) fun _ H3 e3 => ?_
  · have h24 : (24 : Int) ≤ ((t.order.map V.str).length : Int) := of_decide_eq_true hy
    rw [List.length_map] at h24
    omega
  have e03 := Ex.tr e02 e3
  have k3 := ka.ex e03
  have d3 := dm.ex e03
  -- for up in ups: self.need(up)
  refine wb_for owns_cx rfl d3 (vi_list (ve_var 2 rfl (Enc.mono (Ex.hide e03) du))) (pg_name (i := 4) sc_put.nd rfl (.inl rfl)) (fun H4 i σ' H' => Ex H4 H' ∧ ∃ v4, σ' = [some (.ref a.p), some (.str n), some vu, some vr, v4, none, none, none, none, none])
    (fun H4 e4 => ⟨Ex.rfl', _, rfl⟩) (fun H4 i σ' H' e4 p => ⟨Bt.ex p.1, (d3.ex e4).ex p.1⟩) ?_ ?_
  · rintro H4 i x vx _ Ha H5 e4 hx ⟨p1, v4, rfl⟩ ea dx
    have e35 : Ex H3 H5 := Ex.tr (Ex.tr e4 p1) ea
    have k5 := k3.ex e35
    have d5 := d3.ex e35
    refine wb_exprW (we_methV takes_cx c.cl mNeed r1 d5 (ve_raw 0 rfl) k5.hp rfl fun H6 e6 => wa1 (d5.ex e6) (ve_var 4 (y := x) rfl dx) fun v H7 e7 dv => ⟨M, a, t, v, x, rfl, (d5.ex e6).ex e7, (k5.ex e6).ex e7, dv, (hup x (List.mem_of_getElem? hx)).1, fun H8 e8 => ?_⟩)
    exact wb_nil ⟨Ex.tr (Ex.tr p1 ea) (Ex.tr e6 (Ex.tr e7 e8)), _, rfl⟩
  rintro H4 _ H5 e4 ⟨p1, v4, rfl⟩
  have e05 : Ex H H5 := Ex.tr e03 (Ex.tr e4 p1)
  have k5 := ka.ex e05
  have d5 := dm.ex e05
  have du5 : den K (hide M H5) vu ups := Enc.mono (Ex.hide e05) du
  -- if len(ups) == 0
  refine wb_when d5 (vc_eqI (ve_lenL hlen (ve_var 2 rfl du5)) ve_int).vt (fun hy => ?_) fun _ H6 e6 => ?_
  · have : (ups.length : Int) = 0 := of_decide_eq_true hy
    exact absurd (List.length_eq_zero_iff.mp (by omega)) hu0
  have e06 := Ex.tr e05 e6
  have k6 := ka.ex e06
  have d6 := dm.ex e06
  have du6 : den K (hide M H6) vu ups := Enc.mono (Ex.hide e06) du
  -- above = ..
  refine wb_setDc2 (i := 5) (ja := 4) (jb := 9) (f := upsOf t) rfl sc_put.nd d6 (vi_list (ve_var 2 rfl du6)) (blkOk_by (N := nPut) (sc := defScope s_Kinds_put) (by decide +kernel)) (by omega) (fun q s' H0 C' cl fp H7 v x hq e7 d7 eh hx dx => ?_) fun D G7 hD e7 d7 h7 => ?_
  · have k7 := k6.more hq e7
    obtain ⟨ku, hu1, hu2⟩ := k7.hu
    have hs := (hup x hx).2.1
    cases hg : aGet t.uppers x with
    | none => rw [hg] at hs; cases hs
    | some y =>
      have ey : upsOf t x = y.ks := by unfold upsOf; rw [hg]; rfl
      rw [ey]
      exact vi_kset (ve_dgetM (un1 hr) (ve_uppers c k7 (ve_raw 0 rfl)) (ve_var 4 (y := x) rfl dx) hu1 hu2 hg)
  refine wb_frz (d := D) h7 trivial fun od => ?_
  have e68 : Ex H6 (upd G7 D (.frz od (.dK (tru (unionK ups (upsOf t)))))) := fun x o hx => by
    rw [upd_ne (ne_of_none hx hD)]
    exact e7 x o hx
  have h8 : (upd G7 D (.frz od (.dK (tru (unionK ups (upsOf t)))))) D = some (.frz od (.dK (tru (unionK ups (upsOf t))))) := upd_same
  generalize upd G7 D (.frz od (.dK (tru (unionK ups (upsOf t))))) = H8 at e68 h8
  have e08 := Ex.tr e06 e68
  have k8 := ka.ex e08
  have d8 := dm.ex e08
  have dA : den K (hide M H8) (.ref D) (⟨aboveOf t ups⟩ : KSet) := ⟨D, od, rfl, by rw [hide_out (d6.fresh hD)]; exact h8⟩
  -- self.look_at_fork(above)
  refine wb_exprW (we_methV takes_cx c.cl mFork hr d8 (ve_raw 0 rfl) k8.hp rfl fun H9 e9 => wa1 (d8.ex e9) (ve_var 5 (y := (⟨aboveOf t ups⟩ : KSet)) rfl (Enc.mono (Ex.hide e9) dA)) fun v H10 e10 dv => ⟨M, a, t, v, ⟨aboveOf t ups⟩, rfl, (d8.ex e9).ex e10, (k8.ex e9).ex e10, dv, hab, fun _ H11 e11 => ?_, fun x y hf => by rw [hfork] at hf; cases hf⟩)
  have e811 : Ex H8 H11 := Ex.tr e9 (Ex.tr e10 e11)
  have e011 := Ex.tr e08 e811
  have k11 := ka.ex e011
  have d11 := dm.ex e011
  -- inherited = self.inherited(sorted(set(ups)))
  refine wb_setW (i := 6) sc_put.nd (we_methV takes_cx c.cl mInh r1 d11 (ve_raw 0 rfl) k11.hp rfl fun H12 e12 => wa1 (d11.ex e12) (ve_sortedSet hsorted hset rfl (ve_var 2 (y := ups) rfl (Enc.mono (Ex.hide (Ex.tr e011 e12)) du)) hu64) fun v H13 e13 dv => ⟨M, a, t, v, srt (uniq ups), rfl, (d11.ex e12).ex e13, (k11.ex e12).ex e13, dv, fun up hm => (hup up (mem_uniq.mp (mem_srt.mp hm))).2.2, fun D2 H14 hD2 e14 h14 => ?_⟩)
  have e1114 : Ex H11 H14 := Ex.tr e12 (Ex.tr e13 e14)
  have nD2 : H11 D2 = none := Ex.back (Ex.tr e12 e13) hD2
  refine wb_frz (d := D2) h14 trivial fun od2 => ?_
  have e15 : Ex H11 (upd H14 D2 (.frz od2 (.dK []))) := fun x o hx => by
    rw [upd_ne (ne_of_none hx nD2)]
    exact e1114 x o hx
  have h15 : (upd H14 D2 (.frz od2 (.dK []))) D2 = some (.frz od2 (.dK [])) := upd_same
  generalize upd H14 D2 (.frz od2 (.dK [])) = H15 at e15 h15
  have e015 := Ex.tr e011 e15
  have k15 := ka.ex e015
  have d15 := dm.ex e015
  have dI : den K (hide M H15) (.ref D2) (⟨[]⟩ : Dct (List Str)) := ⟨D2, od2, [], rfl, by rw [hide_out (d11.fresh nD2)]; exact h15, .nil⟩
  have dA15 : den K (hide M H15) (.ref D) (⟨aboveOf t ups⟩ : KSet) := Enc.mono (Ex.hide (Ex.tr e811 e15)) dA
  -- told = self.told_rooms(rooms, above, inherited)
  refine wb_setW (i := 7) sc_put.nd (we_methV takes_cx c.cl mTold r1 d15 (ve_raw 0 rfl) k15.hp rfl fun H16 e16 => wa3 (d15.ex e16) (ve_var 3 (y := ([] : List (Str × Str))) rfl (Enc.mono (Ex.hide (Ex.tr e015 e16)) dr)) (ve_raw 5 rfl) (ve_raw 6 rfl) fun v u r H17 e17 dv _ _ => ⟨M, a, t, v, u, r, rfl, (d15.ex e16).ex e17, (k15.ex e16).ex e17, dv, fun D3 H18 hD3 e18 h18 => ?_⟩)
  have e1518 : Ex H15 H18 := Ex.tr e16 (Ex.tr e17 e18)
  have nD3 : H15 D3 = none := Ex.back (Ex.tr e16 e17) hD3
  refine wb_frz (d := D3) h18 trivial fun od3 => ?_
  have e19 : Ex H15 (upd H18 D3 (.frz od3 (.dK []))) := fun x o hx => by
    rw [upd_ne (ne_of_none hx nD3)]
    exact e1518 x o hx
  have h19 : (upd H18 D3 (.frz od3 (.dK []))) D3 = some (.frz od3 (.dK [])) := upd_same
  generalize upd H18 D3 (.frz od3 (.dK [])) = H19 at e19 h19
  have e019 := Ex.tr e015 e19
  have k19 := ka.ex e019
  have d19 := dm.ex e019
  have dT : den K (hide M H19) (.ref D3) (⟨[]⟩ : Dct Str) := ⟨D3, od3, [], rfl, by rw [hide_out (d15.fresh nD3)]; exact h19, .nil⟩
  have dI19 : den K (hide M H19) (.ref D2) (⟨[]⟩ : Dct (List Str)) := Enc.mono (Ex.hide e19) dI
  -- lets = self.all_rooms(told, inherited)
  refine wb_setW (i := 8) sc_put.nd (we_methV takes_cx c.cl mAll r1 d19 (ve_raw 0 rfl) k19.hp rfl fun H20 e20 => wa2 (d19.ex e20) (ve_var 7 (y := (⟨[]⟩ : Dct Str)) rfl (Enc.mono (Ex.hide e20) dT)) (ve_var 6 (y := (⟨[]⟩ : Dct (List Str))) rfl (Enc.mono (Ex.hide e20) dI19)) fun v u H21 e21 dv du' => ⟨M, a, t, v, u, rfl, (d19.ex e20).ex e21, (k19.ex e20).ex e21, dv, du', fun D4 H22 hD4 e22 h22 => ?_⟩)
  have e1922 : Ex H19 H22 := Ex.tr e20 (Ex.tr e21 e22)
  have nD4 : H19 D4 = none := Ex.back (Ex.tr e20 e21) hD4
  refine wb_frz (d := D4) h22 trivial fun od4 => ?_
  have e23 : Ex H19 (upd H22 D4 (.frz od4 (.dK []))) := fun x o hx => by
    rw [upd_ne (ne_of_none hx nD4)]
    exact e1922 x o hx
  have h23 : (upd H22 D4 (.frz od4 (.dK []))) D4 = some (.frz od4 (.dK [])) := upd_same
  generalize upd H22 D4 (.frz od4 (.dK [])) = H23 at e23 h23
  have e023 := Ex.tr e019 e23
  have k23 := ka.ex e023
  have d23 := dm.ex e023
  have dL : den K (hide M H23) (.ref D4) (⟨[]⟩ : Dct Str) := ⟨D4, od4, [], rfl, by rw [hide_out (d19.fresh nD4)]; exact h23, .nil⟩
  have dT23 : den K (hide M H23) (.ref D3) (⟨[]⟩ : Dct Str) := Enc.mono (Ex.hide e23) dT
  -- self.enter(name, sorted(set(ups)), told, lets)
  refine wb_exprW (we_methV takes_cx c.cl mEnter r1 d23 (ve_raw 0 rfl) k23.hp rfl fun H24 e24 => wa4 (d23.ex e24) (ve_var 1 (y := n) rfl rfl) (ve_sortedSet hsorted hset rfl (ve_var 2 (y := ups) rfl (Enc.mono (Ex.hide (Ex.tr e023 e24)) du)) hu64) (ve_var 7 (y := (⟨[]⟩ : Dct Str)) rfl (Enc.mono (Ex.hide e24) dT23)) (ve_var 8 (y := (⟨[]⟩ : Dct Str)) rfl (Enc.mono (Ex.hide e24) dL)) fun v u r z H25 e25 dv du' dr' dz => ⟨M, a, t, v, u, r, z, n, srt (uniq ups), ⟨[]⟩, ⟨[]⟩, rfl, (d23.ex e24).ex e25, (k23.ex e24).ex e25, dv, du', dr', dz, hsm, fun up hm => (hup up (mem_uniq.mp (mem_srt.mp hm))).2.1, by omega, by show 0 ≤ 1000; decide, hab2, fun H26 k26 b26 d26 => ?_⟩)
  have b026 : Bt a.all H H26 := (Bt.ex (Ex.tr e023 (Ex.tr e24 e25))).tr b26
  -- if self.goes_round()
  refine wb_ifW (wt_of (pt_val pw (by intro _; rfl)) (we_methV0 takes_cx c.cl mRound r1 d26 (ve_raw 0 rfl) k26.hp rfl fun H27 e27 => ⟨M, a, _, rfl, d26.ex e27, k26.ex e27, fun H28 e28 => ⟨false, rfl, ?_⟩⟩))
  refine iteF (wb_nil (wb_nil ?_))
  exact q3 hN (by simpa using hT) H28 (k26.ex (Ex.tr e27 e28)) (b026.tr (Bt.ex (Ex.tr e27 e28))) (d26.ex (Ex.tr e27 e28))
end
end Tm
set_option maxHeartbeats 4000000
namespace Tm
open PySem PySem.Spec PyProof.Rows L2 Pl
open Enc (den)
/-! ### a new table -/
def tab0 : Tab := ⟨["any"], [("any", [])], [("any", ⟨[]⟩)], [("any", ⟨[]⟩)], [("any", ⟨["any"]⟩)], [], [(("any", "any"), "any")]⟩
def spInit (C : Addr) (K : PySem.W.Frag) : Sp := fun vs H Q _ => ∃ (M : List Addr) (x dx : Addr), vs = [.ref x] ∧ Dom M H ∧ x ∈ M ∧ H x = some (.ins C dx []) ∧ ∀ (a : KA) (H' : Hp), a.p = x → (∀ y ∈ a.all, H y = none) → Bt [x] H H' → Dom (a.all ++ M) H' → KindsAt C K (a.all ++ M) H' a tab0 → Q .non H'
section
variable {X : Cx} {M : List Addr} {σ : L2.St} {H : Hp} {a : Expr} {pos p : Pos} {Q : VK}
/-- {a: {}}, the inner one locked -/
theorem we_dd {x : Str} (d : Dom M H) (ha : VE X M σ H a x) (k : ∀ q p od H', H q = none → H p = none → p ≠ q → Ex H H' → H' q = some (.dK [(Sum.inr x, .ref p)]) → H' p = some (.frz od (.dK [])) → Q (.ref q) H') : WE X (.Dict [some a] [.Dict [] [] p] pos) σ H Q :=
  we_disp1 d ha fun q H1 hq e1 d1 h1 => we_frz (we_dnew fun r hr => ⟨r, .dK [], upd_same, trivial, fun od => by
    have hn : q ≠ r := ne_of_none h1 hr
    refine ⟨by rw [upd_ne hn, upd_ne hn]; exact h1, k q r od _ hq (Ex.back e1 hr) hn.symm (fun b o hb => ?_) upd_same ?_⟩
    · have b1 : b ≠ q := ne_of_none hb hq
      have b2 : b ≠ r := ne_of_none (e1 b o hb) hr
      rw [upd_ne b1, upd_ne b2, upd_ne b2]
      exact e1 b o hb
    · rw [upd_ne hn.symm, upd_same]⟩)
/-- {a: []} -/
theorem we_dl {x : Str} (d : Dom M H) (ha : VE X M σ H a x) (k : ∀ q p H', H q = none → H p = none → p ≠ q → Ex H H' → H' q = some (.dK [(Sum.inr x, .ref p)]) → H' p = some (.lst []) → Q (.ref q) H') : WE X (.Dict [some a] [.List [] p] pos) σ H Q :=
  we_disp1 d ha fun q H1 hq e1 d1 h1 => we_of (pe_lst pa_nil) ⟨sz (by decide), fun r hr => by
    have hn : q ≠ r := ne_of_none h1 hr
    refine ⟨by rw [upd_ne hn]; exact h1, k q r _ hq (Ex.back e1 hr) hn.symm (fun b o hb => ?_) upd_same ?_⟩
    · have b1 : b ≠ q := ne_of_none hb hq
      have b2 : b ≠ r := ne_of_none (e1 b o hb) hr
      rw [upd_ne b1, upd_ne b2]
      exact e1 b o hb
    · rw [upd_ne hn.symm, upd_same]⟩
/-- {a: {a: True}}, the inner one locked -/
theorem we_du {x : Str} {b : Expr} {j : Nat} {pt : Pos} (d : Dom M H) (ha : VE X M σ H a x) (hb : VE X M σ H b x) (k : ∀ q p od H', H q = none → H p = none → p ≠ q → Ex H H' → H' q = some (.dK [(Sum.inr x, .ref p)]) → H' p = some (.frz od (.dK (tru [x]))) → Q (.ref q) H') : WE X (.Dict [some a] [.Dict [some b] [.Constant (.bool true) j pt] p] pos) σ H Q :=
  we_disp1 d ha fun q H1 hq e1 d1 h1 => we_frz (we_disp1 d1 (hb.mono e1) fun r H2 hr e2 d2 h2 => we_of pe_bl ⟨h2, r, .dK (tru [x]), upd_same, trivial, fun od => by
    have hn : q ≠ r := ne_of_none h1 hr
    refine ⟨by rw [upd_ne hn, upd_ne hn]; exact e2 q _ h1, k q r od _ hq (Ex.back e1 hr) hn.symm (fun c o hc => ?_) upd_same ?_⟩
    · have b1 : c ≠ q := ne_of_none hc hq
      have b2 : c ≠ r := ne_of_none (e1 c o hc) hr
      rw [upd_ne b1, upd_ne b2, upd_ne b2]
      exact e2 c o (e1 c o hc)
    · rw [upd_ne hn.symm, upd_same]⟩)
end
section
variable {P : Program} {w : World} {K : PySem.W.Frag} {mg : Str → Option Value} {base : Heap} {f C : Addr} {fd : FuncData}
theorem sc_init : FnScope ["self"] ["self"] (defScope s_Kinds_init) := ⟨rfl, rfl, rfl, by decide +kernel, rfl, by decide +kernel, by decide +kernel⟩
theorem ok_init {tA : Tok} (F : Fd K "__init__" "Kinds.__init__" s_Kinds_init f fd) (c : KC K C) (hA : mg "ANY" = some (.str "any" tA)) : FnOk P w K mg base (L2.CX P w) 1 f fd ["self"] (spInit C K) := by
  refine F.ok sc_init (fun vs H Q E h => ?_) (fun cdv A outer s H vs Q E hr h => ⟨_, pbw, ?_⟩)
  · obtain ⟨M, x, dx, rfl, _⟩ := h
    rfl
  obtain ⟨M, x, dx, rfl, dm, xM, hx, k⟩ := h
  have st : ∀ {G G' : Hp} {fs : List (Str × V)}, Dom M G → Ex G G' → Dom M (upd G' x (.ins C dx fs)) := fun d e => (d.ex e).upd
  have bt : ∀ {G G' : Hp} {fs : List (Str × V)}, Ex G G' → Bt [x] G (upd G' x (.ins C dx fs)) := fun e => (Bt.ex e).up (by simp)
  have nx : ∀ {G : Hp} {fs : List (Str × V)} {y : Addr}, G x = some (.ins C dx fs) → G y = none → y ≠ x := fun h1 h2 => (ne_of_none h1 h2).symm
  have no : ∀ {G G' : Hp} {y z : Addr} {o : HO}, Bt [x] G G' → y ≠ x → G y = some o → G' z = none → y ≠ z := fun b hn h1 h2 => ne_of_none (b _ _ (by simpa using hn) h1) h2
  -- self.order = [ANY]
  refine wb_fset (fs := []) c.cl c.no (show 0 < 1000 by decide) (we_of (pe_lst (pa_cons (pe_glob (v := .str "any") rfl hA ⟨tA, rfl⟩ (by decide)) pa_nil)) ⟨sz (by show 1 ≤ 100000; decide), fun o ho => ⟨M, dm.ex (Ex.new ho), ve_raw 0 rfl, (by rw [upd_ne (nx hx ho).symm]; exact hx), fun H1 e1 => ?_⟩⟩)
  have oX : o ≠ x := nx hx ho
  have f1 : (upd H1 x (.ins C dx (putF "order" (.ref o) []))) o = some (.lst [V.str "any"]) := by rw [upd_ne oX]; exact e1 o _ upd_same
  have g1 : (upd H1 x (.ins C dx (putF "order" (.ref o) []))) x = some (.ins C dx [("order", .ref o)]) := upd_same
  have B1 : Bt [x] H (upd H1 x (.ins C dx (putF "order" (.ref o) []))) := bt (Ex.tr (Ex.new ho) e1)
  have D1 : Dom M (upd H1 x (.ins C dx (putF "order" (.ref o) []))) := st dm (Ex.tr (Ex.new ho) e1)
  generalize upd H1 x (.ins C dx (putF "order" (.ref o) [])) = G1 at f1 g1 B1 D1
  have hANY : ∀ {G : Hp} {pos : Pos}, VE (cxOf (L2.CX P w) P w K mg base ["self"] "Kinds.__init__" (defScope s_Kinds_init) f cdv A outer s H E) M (start ["self"] [V.ref x]) G (.Name "ANY" pos) ("any" : Str) := fun {G pos} => ve_globS hA
  -- self.right = {ANY: []}
  refine wb_fset (fs := [("order", .ref o)]) c.cl c.nr (show 1 < 1000 by decide) (we_dl D1 hANY fun r r0 H2 hr2 hr0 nr er fr fr0 => ⟨M, D1.ex er, ve_raw 0 rfl, er x _ g1, fun H2' e2 => ?_⟩)
  have rX := nx g1 hr2
  have r0X := nx g1 hr0
  have f2 : (upd H2' x (.ins C dx (putF "right" (.ref r) [("order", .ref o)]))) r = some (.dK [(Sum.inr "any", .ref r0)]) := by rw [upd_ne rX]; exact e2 r _ fr
  have f20 : (upd H2' x (.ins C dx (putF "right" (.ref r) [("order", .ref o)]))) r0 = some (.lst []) := by rw [upd_ne r0X]; exact e2 r0 _ fr0
  have g2 : (upd H2' x (.ins C dx (putF "right" (.ref r) [("order", .ref o)]))) x = some (.ins C dx [("order", .ref o), ("right", .ref r)]) := upd_same
  have B2 : Bt [x] G1 (upd H2' x (.ins C dx (putF "right" (.ref r) [("order", .ref o)]))) := bt (Ex.tr er e2)
  have D2 : Dom M (upd H2' x (.ins C dx (putF "right" (.ref r) [("order", .ref o)]))) := st D1 (Ex.tr er e2)
  generalize upd H2' x (.ins C dx (putF "right" (.ref r) [("order", .ref o)])) = G2 at f2 f20 g2 B2 D2
  -- self.spoken = {ANY: {}}
  refine wb_fset (fs := [("order", .ref o), ("right", .ref r)]) c.cl c.ns (show 2 < 1000 by decide) (we_dd D2 hANY fun sp s0 os H3 hs3 hs0 ns es fs fs0 => ⟨M, D2.ex es, ve_raw 0 rfl, es x _ g2, fun H3' e3 => ?_⟩)
  have sX := nx g2 hs3
  have s0X := nx g2 hs0
  have f3 : (upd H3' x (.ins C dx (putF "spoken" (.ref sp) [("order", .ref o), ("right", .ref r)]))) sp = some (.dK [(Sum.inr "any", .ref s0)]) := by rw [upd_ne sX]; exact e3 sp _ fs
  have f30 : (upd H3' x (.ins C dx (putF "spoken" (.ref sp) [("order", .ref o), ("right", .ref r)]))) s0 = some (.frz os (.dK [])) := by rw [upd_ne s0X]; exact e3 s0 _ fs0
  have g3 : (upd H3' x (.ins C dx (putF "spoken" (.ref sp) [("order", .ref o), ("right", .ref r)]))) x = some (.ins C dx [("order", .ref o), ("right", .ref r), ("spoken", .ref sp)]) := upd_same
  have B3 : Bt [x] G2 (upd H3' x (.ins C dx (putF "spoken" (.ref sp) [("order", .ref o), ("right", .ref r)]))) := bt (Ex.tr es e3)
  have D3 : Dom M (upd H3' x (.ins C dx (putF "spoken" (.ref sp) [("order", .ref o), ("right", .ref r)]))) := st D2 (Ex.tr es e3)
  generalize upd H3' x (.ins C dx (putF "spoken" (.ref sp) [("order", .ref o), ("right", .ref r)])) = G3 at f3 f30 g3 B3 D3
  -- self.lets = {ANY: {}}
  refine wb_fset (fs := [("order", .ref o), ("right", .ref r), ("spoken", .ref sp)]) c.cl c.nl (show 3 < 1000 by decide) (we_dd D3 hANY fun l l0 ol H4 hl4 hl0 nl el fl fl0 => ⟨M, D3.ex el, ve_raw 0 rfl, el x _ g3, fun H4' e4 => ?_⟩)
  have lX := nx g3 hl4
  have l0X := nx g3 hl0
  have f4 : (upd H4' x (.ins C dx (putF "lets" (.ref l) [("order", .ref o), ("right", .ref r), ("spoken", .ref sp)]))) l = some (.dK [(Sum.inr "any", .ref l0)]) := by rw [upd_ne lX]; exact e4 l _ fl
  have f40 : (upd H4' x (.ins C dx (putF "lets" (.ref l) [("order", .ref o), ("right", .ref r), ("spoken", .ref sp)]))) l0 = some (.frz ol (.dK [])) := by rw [upd_ne l0X]; exact e4 l0 _ fl0
  have g4 : (upd H4' x (.ins C dx (putF "lets" (.ref l) [("order", .ref o), ("right", .ref r), ("spoken", .ref sp)]))) x = some (.ins C dx [("order", .ref o), ("right", .ref r), ("spoken", .ref sp), ("lets", .ref l)]) := upd_same
  have B4 : Bt [x] G3 (upd H4' x (.ins C dx (putF "lets" (.ref l) [("order", .ref o), ("right", .ref r), ("spoken", .ref sp)]))) := bt (Ex.tr el e4)
  have D4 : Dom M (upd H4' x (.ins C dx (putF "lets" (.ref l) [("order", .ref o), ("right", .ref r), ("spoken", .ref sp)]))) := st D3 (Ex.tr el e4)
  generalize upd H4' x (.ins C dx (putF "lets" (.ref l) [("order", .ref o), ("right", .ref r), ("spoken", .ref sp)])) = G4 at f4 f40 g4 B4 D4
  -- self.uppers = {ANY: {ANY: True}}
  refine wb_fset (fs := [("order", .ref o), ("right", .ref r), ("spoken", .ref sp), ("lets", .ref l)]) c.cl c.nu (show 4 < 1000 by decide) (we_du D4 hANY hANY fun u u0 ou H5 hu5 hu0 nu eu fu fu0 => ⟨M, D4.ex eu, ve_raw 0 rfl, eu x _ g4, fun H5' e5 => ?_⟩)
  have uX := nx g4 hu5
  have u0X := nx g4 hu0
  have f5 : (upd H5' x (.ins C dx (putF "uppers" (.ref u) [("order", .ref o), ("right", .ref r), ("spoken", .ref sp), ("lets", .ref l)]))) u = some (.dK [(Sum.inr "any", .ref u0)]) := by rw [upd_ne uX]; exact e5 u _ fu
  have f50 : (upd H5' x (.ins C dx (putF "uppers" (.ref u) [("order", .ref o), ("right", .ref r), ("spoken", .ref sp), ("lets", .ref l)]))) u0 = some (.frz ou (.dK (tru ["any"]))) := by rw [upd_ne u0X]; exact e5 u0 _ fu0
  have g5 : (upd H5' x (.ins C dx (putF "uppers" (.ref u) [("order", .ref o), ("right", .ref r), ("spoken", .ref sp), ("lets", .ref l)]))) x = some (.ins C dx [("order", .ref o), ("right", .ref r), ("spoken", .ref sp), ("lets", .ref l), ("uppers", .ref u)]) := upd_same
  have B5 : Bt [x] G4 (upd H5' x (.ins C dx (putF "uppers" (.ref u) [("order", .ref o), ("right", .ref r), ("spoken", .ref sp), ("lets", .ref l)]))) := bt (Ex.tr eu e5)
  have D5 : Dom M (upd H5' x (.ins C dx (putF "uppers" (.ref u) [("order", .ref o), ("right", .ref r), ("spoken", .ref sp), ("lets", .ref l)]))) := st D4 (Ex.tr eu e5)
  generalize upd H5' x (.ins C dx (putF "uppers" (.ref u) [("order", .ref o), ("right", .ref r), ("spoken", .ref sp), ("lets", .ref l)])) = G5 at f5 f50 g5 B5 D5
  -- self.homes = {}
  refine wb_fset (fs := [("order", .ref o), ("right", .ref r), ("spoken", .ref sp), ("lets", .ref l), ("uppers", .ref u)]) c.cl c.nh (show 5 < 1000 by decide) (we_dnew fun h hh6 => ⟨M, D5.ex (Ex.new hh6), ve_raw 0 rfl, Ex.new hh6 x _ g5, fun H6' e6 => ?_⟩)
  have hX := nx g5 hh6
  have f6 : (upd H6' x (.ins C dx (putF "homes" (.ref h) [("order", .ref o), ("right", .ref r), ("spoken", .ref sp), ("lets", .ref l), ("uppers", .ref u)]))) h = some (.dK []) := by rw [upd_ne hX]; exact e6 h _ upd_same
  have g6 : (upd H6' x (.ins C dx (putF "homes" (.ref h) [("order", .ref o), ("right", .ref r), ("spoken", .ref sp), ("lets", .ref l), ("uppers", .ref u)]))) x = some (.ins C dx [("order", .ref o), ("right", .ref r), ("spoken", .ref sp), ("lets", .ref l), ("uppers", .ref u), ("homes", .ref h)]) := upd_same
  have B6 : Bt [x] G5 (upd H6' x (.ins C dx (putF "homes" (.ref h) [("order", .ref o), ("right", .ref r), ("spoken", .ref sp), ("lets", .ref l), ("uppers", .ref u)]))) := bt (Ex.tr (Ex.new hh6) e6)
  have D6 : Dom M (upd H6' x (.ins C dx (putF "homes" (.ref h) [("order", .ref o), ("right", .ref r), ("spoken", .ref sp), ("lets", .ref l), ("uppers", .ref u)]))) := st D5 (Ex.tr (Ex.new hh6) e6)
  generalize upd H6' x (.ins C dx (putF "homes" (.ref h) [("order", .ref o), ("right", .ref r), ("spoken", .ref sp), ("lets", .ref l), ("uppers", .ref u)])) = G6 at f6 g6 B6 D6
  -- self.lowest = {(ANY, ANY): ANY}
  refine wb_fset (fs := [("order", .ref o), ("right", .ref r), ("spoken", .ref sp), ("lets", .ref l), ("uppers", .ref u), ("homes", .ref h)]) c.cl c.nw (show 6 < 1000 by decide) (we_ldisp (M := M) (un1 hr) D6 hANY hANY hANY fun lw H7 hw7 ew fw => ⟨M, D6.ex ew, ve_raw 0 rfl, ew x _ g6, fun H7' e7 => ?_⟩)
  have wX := nx g6 hw7
  have f7 : (upd H7' x (.ins C dx (putF "lowest" (.ref lw) [("order", .ref o), ("right", .ref r), ("spoken", .ref sp), ("lets", .ref l), ("uppers", .ref u), ("homes", .ref h)]))) lw = some (.dT (ltab [(("any", "any"), "any")])) := by rw [upd_ne wX]; exact e7 lw _ fw
  have g7 : (upd H7' x (.ins C dx (putF "lowest" (.ref lw) [("order", .ref o), ("right", .ref r), ("spoken", .ref sp), ("lets", .ref l), ("uppers", .ref u), ("homes", .ref h)]))) x = some (.ins C dx [("order", .ref o), ("right", .ref r), ("spoken", .ref sp), ("lets", .ref l), ("uppers", .ref u), ("homes", .ref h), ("lowest", .ref lw)]) := upd_same
  have B7 : Bt [x] G6 (upd H7' x (.ins C dx (putF "lowest" (.ref lw) [("order", .ref o), ("right", .ref r), ("spoken", .ref sp), ("lets", .ref l), ("uppers", .ref u), ("homes", .ref h)]))) := bt (Ex.tr ew e7)
  have D7 : Dom M (upd H7' x (.ins C dx (putF "lowest" (.ref lw) [("order", .ref o), ("right", .ref r), ("spoken", .ref sp), ("lets", .ref l), ("uppers", .ref u), ("homes", .ref h)]))) := st D6 (Ex.tr ew e7)
  generalize upd H7' x (.ins C dx (putF "lowest" (.ref lw) [("order", .ref o), ("right", .ref r), ("spoken", .ref sp), ("lets", .ref l), ("uppers", .ref u), ("homes", .ref h)])) = G7 at f7 g7 B7 D7
  -- self.musts = {}
  refine wb_fset (fs := [("order", .ref o), ("right", .ref r), ("spoken", .ref sp), ("lets", .ref l), ("uppers", .ref u), ("homes", .ref h), ("lowest", .ref lw)]) c.cl c.nm (show 7 < 1000 by decide) (we_dnew fun m hm8 => ⟨M, D7.ex (Ex.new hm8), ve_raw 0 rfl, Ex.new hm8 x _ g7, fun H8' e8 => ?_⟩)
  have mX := nx g7 hm8
  have f8 : (upd H8' x (.ins C dx (putF "musts" (.ref m) [("order", .ref o), ("right", .ref r), ("spoken", .ref sp), ("lets", .ref l), ("uppers", .ref u), ("homes", .ref h), ("lowest", .ref lw)]))) m = some (.dK []) := by rw [upd_ne mX]; exact e8 m _ upd_same
  have g8 : (upd H8' x (.ins C dx (putF "musts" (.ref m) [("order", .ref o), ("right", .ref r), ("spoken", .ref sp), ("lets", .ref l), ("uppers", .ref u), ("homes", .ref h), ("lowest", .ref lw)]))) x = some (.ins C dx [("order", .ref o), ("right", .ref r), ("spoken", .ref sp), ("lets", .ref l), ("uppers", .ref u), ("homes", .ref h), ("lowest", .ref lw), ("musts", .ref m)]) := upd_same
  have B8 : Bt [x] G7 (upd H8' x (.ins C dx (putF "musts" (.ref m) [("order", .ref o), ("right", .ref r), ("spoken", .ref sp), ("lets", .ref l), ("uppers", .ref u), ("homes", .ref h), ("lowest", .ref lw)]))) := bt (Ex.tr (Ex.new hm8) e8)
  have D8 : Dom M (upd H8' x (.ins C dx (putF "musts" (.ref m) [("order", .ref o), ("right", .ref r), ("spoken", .ref sp), ("lets", .ref l), ("uppers", .ref u), ("homes", .ref h), ("lowest", .ref lw)]))) := st D7 (Ex.tr (Ex.new hm8) e8)
  generalize upd H8' x (.ins C dx (putF "musts" (.ref m) [("order", .ref o), ("right", .ref r), ("spoken", .ref sp), ("lets", .ref l), ("uppers", .ref u), ("homes", .ref h), ("lowest", .ref lw)])) = G8 at f8 g8 B8 D8
  refine wb_nil ?_
  -- the end: what stands, and apart
  have C12 := B1.tr B2
  have C13 := C12.tr B3
  have C14 := C13.tr B4
  have C15 := C14.tr B5
  have C16 := C15.tr B6
  have C17 := C16.tr B7
  have C18 := C17.tr B8
  have T78 := B8
  have T68 := B7.tr T78
  have T58 := B6.tr T68
  have T48 := B5.tr T58
  have T38 := B4.tr T48
  have T28 := B3.tr T38
  have T18 := B2.tr T28
  have z : ∀ {G : Hp} {y : Addr} {u : HO}, Bt [x] G G8 → y ≠ x → G y = some u → G8 y = some u := fun b hn hy => b _ _ (by simpa using hn) hy
  have fin_o := z T18 oX f1
  have fin_r := z T28 rX f2
  have fin_r0 := z T28 r0X f20
  have fin_s := z T38 sX f3
  have fin_s0 := z T38 s0X f30
  have fin_l := z T48 lX f4
  have fin_l0 := z T48 l0X f40
  have fin_u := z T58 uX f5
  have fin_u0 := z T58 u0X f50
  have fin_h := z T68 hX f6
  have fin_w := z T78 wX f7
  -- fresh at the start
  have fresh : ∀ {G : Hp} {y : Addr}, Bt [x] H G → y ≠ x → G y = none → H y = none := fun {G y} b hn hy => by
    cases e : H y with
    | none => rfl
    | some u => rw [b y u (by simpa using hn) e] at hy; cases hy
  have nr' := fresh B1 rX hr2
  have nr0' := fresh B1 r0X hr0
  have ns' := fresh C12 sX hs3
  have ns0' := fresh C12 s0X hs0
  have nl' := fresh C13 lX hl4
  have nl0' := fresh C13 l0X hl0
  have nu' := fresh C14 uX hu5
  have nu0' := fresh C14 u0X hu0
  have nh' := fresh C15 hX hh6
  have nw' := fresh C16 wX hw7
  have nm' := fresh C17 mX hm8
  -- apart from one another
  have ap : ∀ {G : Hp} {y v : Addr} {u : HO}, G y = some u → G v = none → y ≠ v := fun h1 h2 => ne_of_none h1 h2
  have mv : ∀ {G G' : Hp} {y : Addr} {u : HO}, Bt [x] G G' → y ≠ x → G y = some u → G' y = some u := fun b hn hy => b _ _ (by simpa using hn) hy
  let ka : KA := ⟨x, dx, o, r, sp, l, u, h, lw, m⟩
  have hnd : (ka.p :: ka.all).Nodup := by
    have o2 := mv B2 oX f1; have o3 := mv B3 oX o2; have o4 := mv B4 oX o3; have o5 := mv B5 oX o4; have o6 := mv B6 oX o5; have o7 := mv B7 oX o6
    have r3 := mv B3 rX f2; have r4 := mv B4 rX r3; have r5 := mv B5 rX r4; have r6 := mv B6 rX r5; have r7 := mv B7 rX r6
    have s4 := mv B4 sX f3; have s5 := mv B5 sX s4; have s6 := mv B6 sX s5; have s7 := mv B7 sX s6
    have l5 := mv B5 lX f4; have l6 := mv B6 lX l5; have l7 := mv B7 lX l6
    have u6 := mv B6 uX f5; have u7 := mv B7 uX u6
    have h7 := mv B7 hX f6
    simp only [ka, KA.all, List.nodup_cons, List.mem_cons, List.not_mem_nil, or_false, not_or, not_false_eq_true, List.nodup_nil, and_true]
    exact ⟨⟨oX.symm, rX.symm, sX.symm, lX.symm, uX.symm, hX.symm, wX.symm, mX.symm⟩, ⟨ap f1 hr2, ap o2 hs3, ap o3 hl4, ap o4 hu5, ap o5 hh6, ap o6 hw7, ap o7 hm8⟩, ⟨ap f2 hs3, ap r3 hl4, ap r4 hu5, ap r5 hh6, ap r6 hw7, ap r7 hm8⟩, ⟨ap f3 hl4, ap s4 hu5, ap s5 hh6, ap s6 hw7, ap s7 hm8⟩, ⟨ap f4 hu5, ap l5 hh6, ap l6 hw7, ap l7 hm8⟩, ⟨ap f5 hh6, ap u6 hw7, ap u7 hm8⟩, ⟨ap f6 hw7, ap h7 hm8⟩, ap f7 hm8⟩
  -- what lies within is apart from what may change
  have out : ∀ {y : Addr} {v : HO}, H y = none → G8 y = some v → (∀ q ∈ ka.all, y ≠ q) → hide (ka.all ++ M) G8 y = some v := fun {y v} hn hy hq => by
    rw [hide_out fun hmem => ?_]
    · exact hy
    · rcases List.mem_append.mp hmem with e | e
      · exact hq y e rfl
      · exact dm.fresh hn e
  have kinds : ∀ {y v : Addr} {a b : HO}, G8 y = some a → G8 v = some b → a ≠ b → y ≠ v := fun h1 h2 hn e => by
    rw [e] at h1
    exact hn (Option.some.inj (h1.symm.trans h2))
  have allOut : ∀ {y : Addr} {v : HO}, G8 y = some v → (∀ kvs, v ≠ .dK kvs) → v ≠ .lst [V.str "any"] → (∀ kvs, v ≠ .dT kvs) → ∀ q ∈ ka.all, y ≠ q := by
    intro y v hy h1 h2 h3 q hq
    simp only [ka, KA.all, List.mem_cons, List.not_mem_nil, or_false] at hq
    rcases hq with rfl | rfl | rfl | rfl | rfl | rfl | rfl | rfl
    · exact kinds hy fin_o h2
    · exact kinds hy fin_r (h1 _)
    · exact kinds hy fin_s (h1 _)
    · exact kinds hy fin_l (h1 _)
    · exact kinds hy fin_u (h1 _)
    · exact kinds hy fin_h (h1 _)
    · exact kinds hy fin_w (h3 _)
    · exact kinds hy f8 (h1 _)
  have i_r0 := out nr0' fin_r0 (allOut fin_r0 (fun _ z => nomatch z) (fun z => nomatch z) (fun _ z => nomatch z))
  have i_s0 := out ns0' fin_s0 (allOut fin_s0 (fun _ z => nomatch z) (fun z => nomatch z) (fun _ z => nomatch z))
  have i_l0 := out nl0' fin_l0 (allOut fin_l0 (fun _ z => nomatch z) (fun z => nomatch z) (fun _ z => nomatch z))
  have i_u0 := out nu0' fin_u0 (allOut fin_u0 (fun _ z => nomatch z) (fun z => nomatch z) (fun _ z => nomatch z))
  have hdom : Dom (ka.all ++ M) G8 := fun y hy => by
    rcases List.mem_append.mp hy with e | e
    · simp only [ka, KA.all, List.mem_cons, List.not_mem_nil, or_false] at e
      rcases e with rfl | rfl | rfl | rfl | rfl | rfl | rfl | rfl
      · exact ⟨_, fin_o⟩
      · exact ⟨_, fin_r⟩
      · exact ⟨_, fin_s⟩
      · exact ⟨_, fin_l⟩
      · exact ⟨_, fin_u⟩
      · exact ⟨_, fin_h⟩
      · exact ⟨_, fin_w⟩
      · exact ⟨_, f8⟩
    · exact D8 y e
  refine k ka G8 rfl ?_ C18 hdom ⟨g8, hnd, fun y hy => ?_, fin_o, ⟨_, fin_r, .cons ⟨rfl, r0, [], rfl, .inl (.inl i_r0), .nil⟩ .nil⟩, ⟨_, fin_s, .cons ⟨rfl, s0, os, [], rfl, i_s0, .nil⟩ .nil⟩, ⟨_, fin_l, .cons ⟨rfl, l0, ol, [], rfl, i_l0, .nil⟩ .nil⟩, ⟨_, fin_u, .cons ⟨rfl, u0, ou, rfl, i_u0⟩ .nil⟩, ⟨_, fin_h, .nil⟩, fin_w, f8⟩
  · intro y hy
    simp only [ka, KA.all, List.mem_cons, List.not_mem_nil, or_false] at hy
    rcases hy with rfl | rfl | rfl | rfl | rfl | rfl | rfl | rfl
    · exact ho
    · exact nr'
    · exact ns'
    · exact nl'
    · exact nu'
    · exact nh'
    · exact nw'
    · exact nm'
  · rcases List.mem_cons.mp hy with e | e
    · rw [e]
      exact List.mem_append_right _ xM
    · exact List.mem_append_left _ e
end
end Tm
set_option maxHeartbeats 4000000
namespace Tm
open PySem PySem.Spec PyProof.Rows L2 Pl
open Enc (den)
/-! ### plain data, compared -/
inductive Dat where
  | non | bl (b : Bool) | int (i : Int) | str (z : Str) | lst (l : List Dat) | tup (l : List Dat)
def DD (K : PySem.W.Frag) (H : Hp) : Nat → V → Dat → Prop
  | _, v, .non => v = .non
  | _, v, .bl b => v = .bl b
  | _, v, .int i => v = .int i
  | _, v, .str z => v = .str z
  | 0, _, .lst _ => False
  | 0, _, .tup _ => False
  | n + 1, v, .lst l => l.length ≤ 50000 ∧ ∃ p vs, v = .ref p ∧ SqL K H p vs ∧ All2 (DD K H n) vs l
  | n + 1, v, .tup l => l.length ≤ 50000 ∧ ∃ p vs, v = .ref p ∧ SqT K H p vs ∧ All2 (DD K H n) vs l
theorem DD.mono {K : PySem.W.Frag} {H H' : Hp} (e : Ex H H') : ∀ {n : Nat} {v : V} {x : Dat}, DD K H n v x → DD K H' n v x
  | 0, v, .non, h => h
  | 0, v, .bl _, h => h
  | 0, v, .int _, h => h
  | 0, v, .str _, h => h
  | n + 1, v, .non, h => h
  | n + 1, v, .bl _, h => h
  | n + 1, v, .int _, h => h
  | n + 1, v, .str _, h => h
  | n + 1, v, .lst l, h => by
    obtain ⟨hl, p, vs, h1, h2, h3⟩ := h
    exact ⟨hl, p, vs, h1, ex_l e h2, h3.imp fun _ _ => DD.mono e⟩
  | n + 1, v, .tup l, h => by
    obtain ⟨hl, p, vs, h1, h2, h3⟩ := h
    exact ⟨hl, p, vs, h1, ex_t e h2, h3.imp fun _ _ => DD.mono e⟩
/-- a list of texts as plain data -/
theorem DD.strs {K : PySem.W.Frag} {H : Hp} {v : V} {l : List Str} (h : den K H v l) (hl : l.length ≤ 50000) : DD K H 1 v (.lst (l.map .str)) := by
  obtain ⟨p, vs, h1, h2, h3⟩ := h
  refine ⟨by rw [List.length_map]; exact hl, p, vs, h1, h2, ?_⟩
  clear h2 hl
  induction h3 with
  | nil => exact .nil
  | cons r _ ih => exact .cons r ih
theorem TyX.mono {K : PySem.W.Frag} {H H' : Hp} {v : V} {t : Value} (e : Ex H H') (h : TyX K H v t) : TyX K H' v t := by
  cases h with
  | base b =>
    cases b with
    | non => exact .base .non
    | bl y => exact .base (.bl y)
    | int i => exact .base (.int i)
    | str y => exact .base (.str y)
    | flt y => exact .base (.flt y)
    | lst ea => exact .base (.lst (e _ _ ea))
    | frz ea => exact .base (.frz (e _ _ ea))
    | tup ea => exact .base (.tup (e _ _ ea))
    | dK ea => exact .base (.dK (e _ _ ea))
    | dT ea => exact .base (.dT (e _ _ ea))
    | ins ea c1 c2 c3 c4 c5 => exact .base (.ins (e _ _ ea) c1 c2 c3 c4 c5)
  | byt b => exact .byt b
  | set ea => exact .set (e _ _ ea)
  | kList ea c => exact .kList ea c
  | kTuple ea c => exact .kTuple ea c
  | kDict ea c => exact .kDict ea c
  | fTuple ea => exact .fTuple (e _ _ ea)
  | fDict ea => exact .fDict (e _ _ ea)
theorem ty_l {K : PySem.W.Frag} {H : Hp} {p : Addr} {vs : List V} (h : SqL K H p vs) : TyX K H (.ref p) (.type "list") := by
  rcases h with (h | ⟨o, h⟩) | ⟨o, its, n, h1, h2, _⟩
  · exact .base (.lst h)
  · exact .base (.frz h)
  · exact .kList h1 h2
theorem ty_t {K : PySem.W.Frag} {H : Hp} {p : Addr} {vs : List V} (h : SqT K H p vs) : TyX K H (.ref p) (.type "tuple") := by
  rcases h with (h | ⟨o, h⟩) | ⟨o, its, n, h1, h2, _⟩
  · exact .base (.tup h)
  · exact .fTuple h
  · exact .kTuple h1 h2
section
variable {X : Cx} {M : List Addr} {σ : L2.St} {H H' : Hp} {e a b : Expr} {pos p pc : Pos}
theorem ve_isi {v : V} {T c : String} {r : Bool} (hm : X.mg "isinstance" = none) (hmc : X.mg (Str.ofString c) = none) (he : VE X M σ H e v) (ty : TyX X.K H v (.type T)) (hk : kitB T c = some r) (hb : bootBuiltins (Str.ofString c) = some (.type c)) (hg : Gl X "isinstance" := by rfl) (hgc : Gl X (Str.ofString c) := by rfl)
    (h1 : starEach [e, .Name (Str.ofString c) pc] X.env = (false, eval e X.env) :: starEach [.Name (Str.ofString c) pc] X.env := by rfl) (hn : Str.ofString c ≠ "__name__" := by decide) (hdb : (Str.ofString c == ("__debug__" : Str)) = false := by decide)
    (hpl : (backTo pos (starEach [.Name (Str.ofString c) pc] X.env)).any (·.1) = false := by rfl) : VE X M σ H (.Call (.Name "isinstance" p) [e, .Name (Str.ofString c) pc] [] pos) r :=
  ve_rule (pe_callB call_isi hg hm (by decide +kernel) (pa_cons pw (pa_cons (pe_bltn (v := .ty c) hgc hmc hb rfl hn hdb) pa_nil) h1) (by decide) (by decide) h1 hpl) fun H1 e1 d Q q => he H1 e1 d _ fun u H2 e2 du => by
    rw [show u = v from du]
    exact ⟨v, .ty c, .type T, .type c, r, rfl, .ty c, TyX.mono (Ex.tr e1 e2) ty, kit_ty hk, q _ _ e2 rfl⟩
theorem vc_isNV {v : V} {j : Nat} {p' : Pos} (ha : VE X M σ H a v) : VC X M σ H .Is a (.Constant .none j p') (decide (v = V.non)) := vc_rule (pc_isN pw) fun H1 e1 d Q q => ha H1 e1 d _ fun u H2 e2 du => by
  rw [show u = v from du]
  exact q H2 e2
theorem vc_eqV {v u : V} (ha : VE X M σ H a v) (hb : VE X M σ H b u) (hs : scal v u = true) : VC X M σ H .Eq a b (decide (v = u)) := vc_rule (pc_op op_eq) fun H1 e1 d Q q => two ha hb e1 d fun v' u' H2 e2 _ dv du => by
  rw [show v' = v from dv, show u' = u from du]
  exact ⟨hs, q H2 e2⟩
theorem vc_neB {x y : Bool} (ha : VE X M σ H a x) (hb : VE X M σ H b y) : VC X M σ H .NotEq a b (x != y) := vc_rule (pc_op op_ne) fun H1 e1 d Q q => two ha hb e1 d fun v u H2 e2 _ dv du => by
  rw [show v = .bl x from dv, show u = .bl y from du]
  refine ⟨rfl, ?_⟩
  have e : (!decide (V.bl x = V.bl y)) = (x != y) := by cases x <;> cases y <;> rfl
  rw [e]
  exact q H2 e2
theorem ve_lenSq {r : Addr} {vs : List V} (hm : X.mg "len" = none) (h : VE X M σ H e (V.ref r)) (hl : SqL X.K H r vs ∨ SqT X.K H r vs) (hg : Gl X "len" := by rfl) (he : starEach [e] X.env = (false, eval e X.env) :: starEach [] X.env := by rfl) (hpl : (backTo pos (starEach [] X.env)).any (·.1) = false := by rfl) : VE X M σ H (.Call (.Name "len" p) [e] [] pos) (vs.length : Int) :=
  ve_rule (pe_callB call_len hg hm PySem.boot_len (pa_cons pw pa_nil he) (by decide) (by decide) he hpl) fun H1 e1 d Q q => h H1 e1 d _ fun v H2 e2 dv => by
    rw [show v = .ref r from dv]
    exact ⟨.ref r, vs.length, rfl, hl.imp (fun z => ⟨vs, ex_l (Ex.tr e1 e2) z, rfl⟩) (fun z => ⟨vs, ex_t (Ex.tr e1 e2) z, rfl⟩), q _ H2 e2 rfl⟩
theorem ve_ixLV {r : Addr} {vs : List V} {i : Int} {j : Nat} {w : V} (ha : VE X M σ H a (V.ref r)) (hl : SqL X.K H r vs) (hb : VE X M σ H b i) (hi : i = (j : Int)) (hw : vs[j]? = some w) (hs : PlainIx b := by exact fun _ _ => rfl) : VE X M σ H (.Subscript a b pos) w :=
  ve_rule (pe_ix ix_list pw pw hs) fun H1 e1 d Q q => two ha hb e1 d fun v u H2 e2 d2 dv du => ⟨r, vs, i, w, dv, du, ex_l (Ex.tr e1 e2) hl, by rw [hi]; exact atI_nat hw, q w H2 e2 rfl⟩
theorem ve_ixTV {r : Addr} {vs : List V} {i : Int} {j : Nat} {w : V} (ha : VE X M σ H a (V.ref r)) (hl : SqT X.K H r vs) (hb : VE X M σ H b i) (hi : i = (j : Int)) (hw : vs[j]? = some w) (hs : PlainIx b := by exact fun _ _ => rfl) : VE X M σ H (.Subscript a b pos) w :=
  ve_rule (pe_ix ix_tup pw pw hs) fun H1 e1 d Q q => two ha hb e1 d fun v u H2 e2 d2 dv du => ⟨r, vs, i, w, dv, du, ex_t (Ex.tr e1 e2) hl, by rw [hi]; exact atI_nat hw, q w H2 e2 rfl⟩
end
/-- two alike -/
def spSame (K : PySem.W.Frag) (n : Nat) : Sp := fun vs H Q _ => ∃ (M : List Addr) (v u : V) (x : Dat), vs = [v, u] ∧ Dom M H ∧ DD K (hide M H) n v x ∧ DD K (hide M H) n u x ∧ ∀ H', Ex H H' → Q (.bl true) H'
section
variable {P : Program} {w : World} {K : PySem.W.Frag} {mg : Str → Option Value} {base : Heap} {f : Addr} {fd : FuncData}
abbrev nSame : List Str := ["_law_found", "_law_due", "_law_k"]
theorem sc_same : FnScope nSame ["_law_found", "_law_due"] (defScope s__law_same) := ⟨rfl, rfl, rfl, by decide +kernel, rfl, by decide +kernel, by decide +kernel⟩
theorem all_true {α : Type} (l : List α) : (l.map fun _ => true).all id = true := by
  induction l with
  | nil => rfl
  | cons _ _ ih => rw [List.map_cons, List.all_cons, ih]; rfl
section
variable {cdv : Value} {A : Around} {outer : List Env} {s : Shared} {H : Hp} {E : XK} {Q : VK} {M : List Addr} {v : V}
theorem same_scal (h1 : mg "isinstance" = none) (h2 : mg "bool" = none) (h3 : mg "int" = none) (h4 : mg "str" = none) (dm : Dom M H) (hx : v = .non ∨ (∃ b, v = .bl b) ∨ (∃ i, v = .int i) ∨ ∃ z, v = .str z) (k : ∀ H', Ex H H' → Q (.bl true) H') :
    WB (cxOf (L2.CX P w) P w K mg base nSame "_law_same" (defScope s__law_same) f cdv A outer s H E) (defBody s__law_same) { nx := fun _ H' => Q .non H', rt := Q } (start nSame [v, v]) H := by
  have fin : ∀ {u : V} {H1 H2 : Hp}, Ex H H1 → Ex H1 H2 → u = .bl true → Q u H2 := fun e1 e2 hu => by
    rw [hu]
    exact k _ (Ex.tr e1 e2)
  rcases hx with rfl | ⟨b, rfl⟩ | ⟨i, rfl⟩ | ⟨z, rfl⟩
  · refine wb_when dm (vc_isNV (ve_raw 1 rfl)).vt (fun _ H1 e1 => ?_) fun hy => by cases hy
    exact wb_ret (M := M) (dm.ex e1) (vc_isNV (v := V.non) (ve_raw 0 rfl)).ve fun u H2 e2 du => fin e1 e2 du
  · refine wb_when dm (vc_isNV (ve_raw 1 rfl)).vt (fun hy => absurd (of_decide_eq_true hy) (fun z => nomatch z)) fun _ H1 e1 => ?_
    refine wb_when (dm.ex e1) (vt_val (ve_isi (T := "bool") (c := "bool") (r := true) h1 h2 (ve_raw 1 rfl) (.base (.bl b)) (by decide +kernel) (by decide +kernel))) (fun _ H2 e2 => ?_) fun hy => by cases hy
    refine wb_ret (M := M) ((dm.ex e1).ex e2) (ve_and (ve_isi (T := "bool") (c := "bool") (r := true) h1 h2 (ve_raw 0 rfl) (.base (.bl b)) (by decide +kernel) (by decide +kernel)) fun _ => ve_one (vc_eqV (v := .bl b) (u := .bl b) (ve_raw 0 rfl) (ve_raw 1 rfl) rfl).ve) fun u H3 e3 du => fin (Ex.tr e1 e2) e3 ?_
    rw [decide_eq_true rfl] at du
    exact du
  · refine wb_when dm (vc_isNV (ve_raw 1 rfl)).vt (fun hy => absurd (of_decide_eq_true hy) (fun z => nomatch z)) fun _ H1 e1 => ?_
    refine wb_when (dm.ex e1) (vt_val (ve_isi (T := "int") (c := "bool") h1 h2 (ve_raw 1 rfl) (.base (.int i)) (r := false) (by decide +kernel) (by decide +kernel))) (fun hy => by cases hy) fun _ H2 e2 => ?_
    refine wb_when ((dm.ex e1).ex e2) (vt_val (ve_isi (T := "int") (c := "int") h1 h3 (ve_raw 1 rfl) (.base (.int i)) (r := true) (by decide +kernel) (by decide +kernel))) (fun _ H3 e3 => ?_) fun hy => by cases hy
    refine wb_ret (M := M) (((dm.ex e1).ex e2).ex e3) (ve_and (ve_isi (T := "int") (c := "int") (r := true) h1 h3 (ve_raw 0 rfl) (.base (.int i)) (by decide +kernel) (by decide +kernel)) fun _ => ve_and (ve_not (ve_isi (T := "int") (c := "bool") (r := false) h1 h2 (ve_raw 0 rfl) (.base (.int i)) (by decide +kernel) (by decide +kernel))) fun _ => ve_one (vc_eqV (v := .int i) (u := .int i) (ve_raw 0 rfl) (ve_raw 1 rfl) rfl).ve) fun u H4 e4 du => fin (Ex.tr (Ex.tr e1 e2) e3) e4 ?_
    rw [decide_eq_true rfl] at du
    exact du
  · refine wb_when dm (vc_isNV (ve_raw 1 rfl)).vt (fun hy => absurd (of_decide_eq_true hy) (fun z => nomatch z)) fun _ H1 e1 => ?_
    refine wb_when (dm.ex e1) (vt_val (ve_isi (T := "str") (c := "bool") h1 h2 (ve_raw 1 rfl) (.base (.str z)) (r := false) (by decide +kernel) (by decide +kernel))) (fun hy => by cases hy) fun _ H2 e2 => ?_
    refine wb_when ((dm.ex e1).ex e2) (vt_val (ve_isi (T := "str") (c := "int") h1 h3 (ve_raw 1 rfl) (.base (.str z)) (r := false) (by decide +kernel) (by decide +kernel))) (fun hy => by cases hy) fun _ H3 e3 => ?_
    refine wb_when (((dm.ex e1).ex e2).ex e3) (vt_val (ve_isi (T := "str") (c := "str") h1 h4 (ve_raw 1 rfl) (.base (.str z)) (r := true) (by decide +kernel) (by decide +kernel))) (fun _ H4 e4 => ?_) fun hy => by cases hy
    refine wb_ret (M := M) ((((dm.ex e1).ex e2).ex e3).ex e4) (ve_and (ve_isi (T := "str") (c := "str") (r := true) h1 h4 (ve_raw 0 rfl) (.base (.str z)) (by decide +kernel) (by decide +kernel)) fun _ => ve_one (vc_eqV (v := .str z) (u := .str z) (ve_raw 0 rfl) (ve_raw 1 rfl) rfl).ve) fun u H5 e5 du => fin (Ex.tr (Ex.tr (Ex.tr e1 e2) e3) e4) e5 ?_
    rw [decide_eq_true rfl] at du
    exact du
/-- lists or tuples, item by item -/
theorem same_seq {n : Nat} {T : String} {bL bT : Bool} {p q : Addr} {vs us : List V} {l : List Dat} (h1 : mg "isinstance" = none) (h2 : mg "bool" = none) (h3 : mg "int" = none) (h4 : mg "str" = none) (h5 : mg "list" = none) (h6 : mg "tuple" = none) (h7 : mg "len" = none) (h8 : mg "range" = none) (h9 : mg "all" = none)
    (hr : Room (n + 1) (A.deeper (envOfC "_law_same" (defScope s__law_same) s.heap.objs.size f cdv))) (FR : FN P w K mg base "_law_same" (n + 1) (spSame K n)) (dm : Dom M H) (hT : kitB T "bool" = some false ∧ kitB T "int" = some false ∧ kitB T "str" = some false ∧ kitB T "list" = some bL ∧ kitB T "tuple" = some bT)
    (hp : TyX K H (.ref p) (.type T) ∧ TyX K H (.ref q) (.type T)) (hs : (SqL K (hide M H) p vs ∧ SqL K (hide M H) q us) ∨ (SqT K (hide M H) p vs ∧ SqT K (hide M H) q us)) (hl : l.length ≤ 50000) (hv : All2 (DD K (hide M H) n) vs l) (hu : All2 (DD K (hide M H) n) us l) (k : ∀ H', Ex H H' → Q (.bl true) H') :
    WB (cxOf (L2.CX P w) P w K mg base nSame "_law_same" (defScope s__law_same) f cdv A outer s H E) (defBody s__law_same) { nx := fun _ H' => Q .non H', rt := Q } (start nSame [V.ref p, V.ref q]) H := by
  obtain ⟨t1, t2, t3, t4, t5⟩ := hT
  refine wb_when dm (vc_isNV (ve_raw 1 rfl)).vt (fun hy => absurd (of_decide_eq_true hy) (fun z => nomatch z)) fun _ H1 e1 => ?_
  refine wb_when (dm.ex e1) (vt_val (ve_isi (T := T) (c := "bool") h1 h2 (ve_raw 1 rfl) (TyX.mono e1 hp.2) t1 (by decide +kernel))) (fun hy => by cases hy) fun _ H2 e2 => ?_
  have e02 := Ex.tr e1 e2
  refine wb_when (dm.ex e02) (vt_val (ve_isi (T := T) (c := "int") h1 h3 (ve_raw 1 rfl) (TyX.mono e02 hp.2) t2 (by decide +kernel))) (fun hy => by cases hy) fun _ H3 e3 => ?_
  have e03 := Ex.tr e02 e3
  refine wb_when (dm.ex e03) (vt_val (ve_isi (T := T) (c := "str") h1 h4 (ve_raw 1 rfl) (TyX.mono e03 hp.2) t3 (by decide +kernel))) (fun hy => by cases hy) fun _ H4 e4 => ?_
  have e04 := Ex.tr e03 e4
  refine wb_when (dm.ex e04) (vc_neB (ve_isi (T := T) (c := "list") h1 h5 (ve_raw 1 rfl) (TyX.mono e04 hp.2) t4 (by decide +kernel)) (ve_isi (T := T) (c := "list") h1 h5 (ve_raw 0 rfl) (TyX.mono e04 hp.1) t4 (by decide +kernel))).vt (fun hy => by cases bL <;> cases hy) fun _ H5 e5 => ?_
  have e05 := Ex.tr e04 e5
  refine wb_when (dm.ex e05) (vc_neB (ve_isi (T := T) (c := "tuple") h1 h6 (ve_raw 1 rfl) (TyX.mono e05 hp.2) t5 (by decide +kernel)) (ve_isi (T := T) (c := "tuple") h1 h6 (ve_raw 0 rfl) (TyX.mono e05 hp.1) t5 (by decide +kernel))).vt (fun hy => by cases bT <;> cases hy) fun _ H6 e6 => ?_
  have e06 := Ex.tr e05 e6
  have sq : ∀ {G : Hp}, Ex H G → (SqL K G p vs ∨ SqT K G p vs) ∧ (SqL K G q us ∨ SqT K G q us) := fun {G} e => by
    rcases hs with ⟨z1, z2⟩ | ⟨z1, z2⟩
    · exact ⟨.inl (ex_l e (ex_hideL z1)), .inl (ex_l e (ex_hideL z2))⟩
    · exact ⟨.inr (ex_t e (ex_hideT z1)), .inr (ex_t e (ex_hideT z2))⟩
  refine wb_when (dm.ex e06) (vc_neI (ve_lenSq h7 (ve_raw 0 rfl) (sq e06).1) (ve_lenSq h7 (ve_raw 1 rfl) (sq e06).2)).vt (fun hy => ?_) fun _ H7 e7 => ?_
  · rw [hv.len, hu.len, decide_eq_true rfl] at hy
    cases hy
  have e07 := Ex.tr e06 e7
  have hul : us.length = l.length := hu.len
  refine wb_ret (M := M) (dm.ex e07) (ve_all h9 rfl (ve_lc (j := 2) (g := fun _ => true) rfl sc_same.nd (vi_range h8 (ve_lenSq h7 (ve_raw 1 rfl) (sq e07).2) (by omega) (by omega)) (by rw [List.length_range]; omega) (blkOk_by (N := nSame) (sc := defScope s__law_same) (by decide +kernel)) fun r s' H0 C cl fp H8 v1 x hq e8 d8 eh hx dx => ?_)) fun u H9 e9 du => ?_
  · have hx' : x < us.length := by
      have := List.mem_range.mp hx
      omega
    have e08 := Ex.tr e07 e8
    have ehH : Ex (hide M H) (hide (r :: M) H8) := Ex.tr (Ex.hide e07) eh
    obtain ⟨y, hy⟩ : ∃ y, l[x]? = some y := ⟨_, List.getElem?_eq_getElem (by omega)⟩
    obtain ⟨a1, ha1, da1⟩ := hv.get hy
    obtain ⟨a2, ha2, da2⟩ := hu.get hy
    rcases hs with ⟨z1, z2⟩ | ⟨z1, z2⟩
    · refine fun G eG dG Q' q' => we_call takes0 FR hr (wa2 dG ((ve_ixLV (ve_raw 0 rfl) (ex_l e08 (ex_hideL z1)) (ve_var 2 (y := (x : Int)) rfl dx) rfl ha1).mono eG) ((ve_ixLV (ve_raw 1 rfl) (ex_l e08 (ex_hideL z2)) (ve_var 2 (y := (x : Int)) rfl dx) rfl ha2).mono eG) fun w1 w2 G1 e11 d1' d2' => ⟨r :: M, w1, w2, y, rfl, dG.ex e11, ?_, ?_, fun G2 e12 => q' _ _ (Ex.tr e11 e12) rfl⟩)
      · rw [show w1 = a1 from d1']
        exact DD.mono (Ex.tr ehH (Ex.hide (Ex.tr eG e11))) da1
      · rw [show w2 = a2 from d2']
        exact DD.mono (Ex.tr ehH (Ex.hide (Ex.tr eG e11))) da2
    · refine fun G eG dG Q' q' => we_call takes0 FR hr (wa2 dG ((ve_ixTV (ve_raw 0 rfl) (ex_t e08 (ex_hideT z1)) (ve_var 2 (y := (x : Int)) rfl dx) rfl ha1).mono eG) ((ve_ixTV (ve_raw 1 rfl) (ex_t e08 (ex_hideT z2)) (ve_var 2 (y := (x : Int)) rfl dx) rfl ha2).mono eG) fun w1 w2 G1 e11 d1' d2' => ⟨r :: M, w1, w2, y, rfl, dG.ex e11, ?_, ?_, fun G2 e12 => q' _ _ (Ex.tr e11 e12) rfl⟩)
      · rw [show w1 = a1 from d1']
        exact DD.mono (Ex.tr ehH (Ex.hide (Ex.tr eG e11))) da1
      · rw [show w2 = a2 from d2']
        exact DD.mono (Ex.tr ehH (Ex.hide (Ex.tr eG e11))) da2
  · rw [all_true] at du
    rw [show u = .bl true from du]
    exact k H9 (Ex.tr e07 e9)
end
theorem ok_same (F : Fd K "_law_same" "_law_same" s__law_same f fd) (hf : mg "_law_same" = some (.ref f)) (hk : PySem.W.keepIn K (.ref f) = true) (hb : Binds K fd ["_law_found", "_law_due"] [])
    (h1 : mg "isinstance" = none) (h2 : mg "bool" = none) (h3 : mg "int" = none) (h4 : mg "str" = none) (h5 : mg "list" = none) (h6 : mg "tuple" = none) (h7 : mg "len" = none) (h8 : mg "range" = none) (h9 : mg "all" = none) : ∀ n, FnOk P w K mg base (L2.CX P w) (n + 1) f fd ["_law_found", "_law_due"] (spSame K n) := by
  intro n
  induction n with
  | zero =>
    refine F.ok sc_same (fun vs H Q E h => ?_) (fun cdv A outer s H vs Q E hr h => ⟨_, pbw, ?_⟩)
    · obtain ⟨M, v, u, x, rfl, _⟩ := h
      rfl
    obtain ⟨M, v, u, x, rfl, dm, dv, du, k⟩ := h
    cases x with
    | non => cases dv; cases du; exact same_scal h1 h2 h3 h4 dm (.inl rfl) k
    | bl b => cases dv; cases du; exact same_scal h1 h2 h3 h4 dm (.inr (.inl ⟨b, rfl⟩)) k
    | int i => cases dv; cases du; exact same_scal h1 h2 h3 h4 dm (.inr (.inr (.inl ⟨i, rfl⟩))) k
    | str z => cases dv; cases du; exact same_scal h1 h2 h3 h4 dm (.inr (.inr (.inr ⟨z, rfl⟩))) k
    | lst l => cases dv
    | tup l => cases dv
  | succ n ih =>
    refine F.ok sc_same (fun vs H Q E h => ?_) (fun cdv A outer s H vs Q E hr h => ⟨_, pbw, ?_⟩)
    · obtain ⟨M, v, u, x, rfl, _⟩ := h
      rfl
    obtain ⟨M, v, u, x, rfl, dm, dv, du, k⟩ := h
    have FR : FN P w K mg base "_law_same" (n + 1) (spSame K n) := ⟨f, fd, _, ih, hf, hk, hb⟩
    cases x with
    | non => cases dv; cases du; exact same_scal h1 h2 h3 h4 dm (.inl rfl) k
    | bl b => cases dv; cases du; exact same_scal h1 h2 h3 h4 dm (.inr (.inl ⟨b, rfl⟩)) k
    | int i => cases dv; cases du; exact same_scal h1 h2 h3 h4 dm (.inr (.inr (.inl ⟨i, rfl⟩))) k
    | str z => cases dv; cases du; exact same_scal h1 h2 h3 h4 dm (.inr (.inr (.inr ⟨z, rfl⟩))) k
    | lst l =>
      obtain ⟨hl, p, vs, rfl, z1, z2⟩ := dv
      obtain ⟨_, q, us, rfl, y1, y2⟩ := du
      exact same_seq (T := "list") h1 h2 h3 h4 h5 h6 h7 h8 h9 hr FR dm (by decide +kernel : kitB "list" "bool" = some false ∧ kitB "list" "int" = some false ∧ kitB "list" "str" = some false ∧ kitB "list" "list" = some true ∧ kitB "list" "tuple" = some false) ⟨ty_l (ex_hideL z1), ty_l (ex_hideL y1)⟩ (.inl ⟨z1, y1⟩) hl z2 y2 k
    | tup l =>
      obtain ⟨hl, p, vs, rfl, z1, z2⟩ := dv
      obtain ⟨_, q, us, rfl, y1, y2⟩ := du
      exact same_seq (T := "tuple") h1 h2 h3 h4 h5 h6 h7 h8 h9 hr FR dm (by decide +kernel : kitB "tuple" "bool" = some false ∧ kitB "tuple" "int" = some false ∧ kitB "tuple" "str" = some false ∧ kitB "tuple" "list" = some false ∧ kitB "tuple" "tuple" = some true) ⟨ty_t (ex_hideT z1), ty_t (ex_hideT y1)⟩ (.inr ⟨z1, y1⟩) hl z2 y2 k
end
end Tm
set_option maxHeartbeats 4000000
namespace Tm
open PySem PySem.Spec PyProof.Rows L2 Pl
open Enc (den)
/-! ### comprehensions whose turns change something -/
section
variable {X : Cx} {M : List Addr} {σ : L2.St} {H : Hp} {α : Type} [Enc α] {pos : Pos} {Q : VK}
theorem we_lcP {xs : List α} {elt iter : Expr} {scope : Scope} {n : Str} {j : Nat} {np : Pos} (hc : X.calm = true) (nd : X.N.Nodup) (d : Dom M H) (src : VI X M σ H (.Name n np) iter xs) (ok : BlkOk X.N X.env.scope scope [(n, j)]) (P : Hp → Addr → Nat → Hp → Prop)
    (h0 : ∀ H2 D, Ex H H2 → H2 D = none → P H2 D 0 (upd H2 D (.lst []))) (hb : ∀ H2 D i Hc, Ex H H2 → H2 D = none → P H2 D i Hc → Bt M H2 Hc)
    (hs : ∀ H2 D i x v Ha Hb s H0 C cl fp, Ex H H2 → H2 D = none → xs[i]? = some x → P H2 D i Ha → Ex Ha Hb → (∀ M', Ex (hide M H2) (hide M' Ha) → Dom M' Ha → den X.K (hide M' Hb) v x) →
      WE (Blk X scope s H0 C cl fp) elt ((wipe σ [j]).set j (some v)) Hb fun u H4 => ∃ acc, H4 D = some (.lst acc) ∧ acc.length < 90000 ∧ P H2 D (i + 1) (upd H4 D (.lst (acc ++ [u]))))
    (hd : ∀ H2 D Hc, Ex H H2 → H2 D = none → P H2 D xs.length Hc → Q (.ref D) Hc)
    (hw : ∀ v, wipe ((wipe σ [j]).set j (some v)) [j] = wipe σ [j] := by intro _; rfl) (hi : X.N[j]? = some n := by rfl) (hl : (relabel scope X.env).names.lookup n = some .local := by rfl) (hf : ∀ x, foldedSetIterable iter X.env x = pure x := by intro _; rfl) :
    WE X (.ListComp elt [⟨.Name n np, iter, [], 0⟩] scope pos) σ H Q := by
  refine we_of (pe_lc (own := [(n, j)]) (g := gName j) hc nd piw ok (fun s H C cl fp => pg_name nd hi (Or.inl hl) (Or.inr hl)) (fun _ _ _ _ _ => pts_nil) (fun _ _ _ _ _ => pallE) hf) (src H Ex.rfl' d _ fun J H2 G Y e2 W hG hY D hD => ?_)
  refine lc_it W (fun i Hc => P H2 D i Hc) (h0 H2 D e2 hD) (fun i Hc _ p => hG Hc (hb H2 D i Hc e2 hD p)) ?_ (fun Hc p => hd H2 D Hc e2 hD p)
  intro i v Ha Hb hi' p y
  obtain ⟨eab, x, hx, dx⟩ := hY i Ha v Hb hi' (hb H2 D i Ha e2 hD p) y
  refine ⟨hw v, ?_⟩
  unfold tYes
  dsimp only
  rw [if_pos rfl]
  intro s H0 C cl fp pins st I
  refine thn (hs H2 D i x v Ha Hb s H0 C cl fp e2 hD hx p eab dx pins st I) fun u s1 ⟨w, H4, I4, r4, acc, h4, hz, q4⟩ => ⟨w, H4, I4, r4, acc, h4, szl (by omega), q4⟩
end
theorem VE.go {X : Cx} {M : List Addr} {σ : L2.St} {H H1 : Hp} {e : Expr} {α : Type} [Enc α] {y : α} {Q : VK} (h : VE X M σ H e y) (e1 : Ex H H1) (d : Dom M H1) (k : ∀ v H2, Ex H1 H2 → den X.K (hide M H2) v y → Q v H2) : WE X e σ H1 Q := h H1 e1 d Q k
/-! ### the bag -/
theorem BagAt.ex {K : PySem.W.Frag} {M : List Addr} {H H' : Hp} {b : Addr} (h : BagAt K M H b) (e : Ex H H') : BagAt K M H' b := by
  obtain ⟨bm, l, ns, i, j, r, h1, h2, h3⟩ := h
  exact ⟨bm, l, ns, i, j, r, e b _ h1, Enc.mono (Ex.hide e) h2, h3⟩
theorem BagAt.keep {K : PySem.W.Frag} {M F : List Addr} {H H' : Hp} {b : Addr} (h : BagAt K M H b) (e : Bt F H H') (hF : ∀ x ∈ F, x ∈ M) (hb : b ∉ F) : BagAt K M H' b := by
  obtain ⟨bm, l, ns, i, j, r, h1, h2, h3⟩ := h
  exact ⟨bm, l, ns, i, j, r, e b _ hb h1, Enc.mono (e.hide hF) h2, h3⟩
theorem BagAt.more {K : PySem.W.Frag} {M : List Addr} {H H' : Hp} {b q : Addr} (h : BagAt K M H b) (hq : H q = none) (e : Ex H H') : BagAt K (q :: M) H' b := by
  obtain ⟨bm, l, ns, i, j, r, h1, h2, h3⟩ := h
  exact ⟨List.mem_cons_of_mem _ bm, l, ns, i, j, r, e b _ h1, Enc.mono (hide_under hq e) h2, h3⟩
theorem BagAt.less {K : PySem.W.Frag} {M : List Addr} {H : Hp} {b q : Addr} (h : BagAt K (q :: M) H b) (hb : b ≠ q) : BagAt K M H b := by
  obtain ⟨bm, l, ns, i, j, r, h1, h2, h3⟩ := h
  exact ⟨(List.mem_cons.mp bm).resolve_left hb, l, ns, i, j, r, h1, Enc.mono hide_more h2, h3⟩
theorem BagAt.put {K : PySem.W.Frag} {M : List Addr} {H : Hp} {b q : Addr} {o : HO} (h : BagAt K M H b) (hq : q ∈ M) (hb : b ≠ q) : BagAt K M (upd H q o) b := by
  obtain ⟨bm, l, ns, i, j, r, h1, h2, h3⟩ := h
  exact ⟨bm, l, ns, i, j, r, by rw [upd_ne hb]; exact h1, by rw [hide_upd hq]; exact h2, h3⟩
theorem BagAt.at' {K : PySem.W.Frag} {M : List Addr} {H : Hp} {b : Addr} (h : BagAt K M H b) : ∃ o, H b = some o := by
  obtain ⟨bm, l, ns, i, j, r, h1, h2, h3⟩ := h
  exact ⟨_, h1⟩
theorem BagAt.dom {K : PySem.W.Frag} {M N : List Addr} {H H' : Hp} {b : Addr} (h : BagAt K M H' b) (e : Bt [b] H H') (d : Dom N H) : Dom N H' := by
  obtain ⟨bm, l, ns, i, j, r, h1, h2, h3⟩ := h
  exact e.dom1 d h1
section
variable {X : Cx} {W : WX} {M : List Addr} {σ : L2.St} {H : Hp} {a b : Expr} {p pos : Pos} {Q : VK}
theorem we_pull {bg : Addr} {many : Int} (tk : Takes X W) (F : FN X.prog X.w X.K X.mg X.base "_law_pull" 1 (spPull X.K)) (hr : Room 1 X.A) (dm : Dom M H) (bag : BagAt X.K M H bg) (ha : VE X M σ H a (V.ref bg)) (hb : VE X M σ H b many) (h0 : 0 < many) (h1 : many < 1073741824)
    (k : ∀ x H', 0 ≤ x → x < many → BagAt X.K M H' bg → Bt [bg] H H' → Dom M H' → Q (.int x) H') (hg : Gl X "_law_pull" := by rfl) (he : starEach [a, b] X.env = (false, eval a X.env) :: starEach [b] X.env := by rfl) (he2 : starEach [b] X.env = (false, eval b X.env) :: starEach [] X.env := by rfl) (hpl : (backTo pos (starEach [b] X.env)).any (·.1) = false := by rfl) :
    WE X (.Call (.Name "_law_pull" p) [a, b] [] pos) σ H Q :=
  we_call tk F hr (wa2 dm ha hb (fun v u H1 e1 dv du => by
    rw [show v = .ref bg from dv, show u = .int many from du]
    exact ⟨M, bg, many, rfl, dm.ex e1, bag.ex e1, h0, h1, fun x H' hx hx' bag' bt => k x H' hx hx' bag' ((Bt.ex e1).tr bt) (bag'.dom ((Bt.ex e1).tr bt) dm)⟩) he he2) hg (by decide) he hpl
end
/-! ### texts, cut -/
theorem all2_take {α β : Type} {R : α → β → Prop} {l : List α} {m : List β} (h : All2 R l m) : ∀ i, All2 R (l.take i) (m.take i) := by
  induction h with
  | nil => intro i; rw [List.take_nil, List.take_nil]; exact .nil
  | cons r _ ih =>
    intro i
    cases i with
    | zero => exact .nil
    | succ i => exact .cons r (ih i)
section
variable {X : Cx} {M : List Addr} {σ : L2.St} {H : Hp} {a b : Expr} {p2 pos : Pos}
theorem ve_cutTo {z : Str} {i : Int} (ha : VE X M σ H a z) (hb : VE X M σ H b i) (hz : z.length ≤ 100000) : VE X M σ H (.Subscript a (.Slice none (some b) none p2) pos) (cutS z none (some i)) :=
  ve_rule (pe_slice sl_str pw po_none (po_some pw)) fun H1 e1 d Q q => two ha hb e1 d fun v u H2 e2 _ dv du => ⟨i, du, z, dv, sz hz, q _ _ e2 rfl⟩
theorem ve_cutFrom {z : Str} {i : Int} (ha : VE X M σ H a z) (hb : VE X M σ H b i) (hz : z.length ≤ 100000) : VE X M σ H (.Subscript a (.Slice (some b) none none p2) pos) (cutS z (some i) none) :=
  ve_rule (pe_slice sl_str pw (po_some pw) po_none) fun H1 e1 d Q q => two ha hb e1 d fun v u H2 e2 _ dv du => ⟨i, du, z, dv, sz hz, q _ _ e2 rfl⟩
/-- xs[:n] of a list: a new list -/
theorem we_cutL {α : Type} [Enc α] {xs : List α} {i : Nat} {Q : VK} (d : Dom M H) (ha : VE X M σ H a xs) (hb : VE X M σ H b (i : Int)) (k : ∀ q vs H1, H q = none → Ex H H1 → H1 q = some (.lst vs) → All2 (den X.K (hide M H1)) vs (xs.take i) → Q (.ref q) H1) : WE X (.Subscript a (.Slice none (some b) none p2) pos) σ H Q :=
  we_of (pe_slice sl_list pw po_none (po_some pw)) (two ha hb Ex.rfl' d fun v u H2 e2 d2 dv du => ⟨(i : Int), du, by
    obtain ⟨l, vs, rfl, hl, hd⟩ := dv
    refine ⟨l, vs, rfl, ex_hideL hl, fun r hr => ?_⟩
    have ec : cutV vs none (some (i : Int)) = vs.take i := by
      unfold cutV
      rw [HT.sIx_none, HT.sIx_nat, List.drop_zero, Nat.sub_zero]
      by_cases h : i ≤ vs.length
      · rw [Nat.min_eq_left h]
      · rw [Nat.min_eq_right (by omega), List.take_length, List.take_of_length_le (by omega)]
    rw [ec]
    refine k r _ _ (Ex.back e2 hr) (Ex.tr e2 (Ex.new hr)) upd_same ?_
    have hd' : All2 (den X.K (hide M (upd H2 r (.lst (vs.take i))))) vs xs := hd.imp fun _ _ z => Enc.mono (Ex.hide (Ex.new hr)) z
    exact all2_take hd' i⟩)
end
theorem len_joinE : ∀ ys : List Str, (Txt.join "" ys).length = (ys.map (·.length)).sum := by
  intro ys
  have h1 : TL.tl (Txt.join "" ys) = TL.joinL (TL.tl "") (ys.map TL.tl) := by rw [TL.join_eq, TL.tl_join]
  have h2 : ∀ l : List (List Nat), (TL.joinL [] l).length = (l.map (·.length)).sum := by
    intro l
    induction l with
    | nil => rfl
    | cons x l ih =>
      cases l with
      | nil => simp [TL.joinL]
      | cons y r => rw [TL.joinL, List.nil_append, List.length_append, ih]; rfl
  have h3 : (Txt.join "" ys).length = (TL.tl (Txt.join "" ys)).length := by
    show _ = (Txt.join "" ys).cps.toList.length
    rw [Array.length_toList]
    rfl
  have h4 : TL.tl "" = [] := rfl
  rw [h3, h1, h4, h2, List.map_map]
  exact congrArg List.sum (List.map_congr_left fun y _ => (TL.len_tl y).symm)
end Tm
set_option maxHeartbeats 4000000
namespace Tm
open PySem PySem.Spec PyProof.Rows L2 Pl
open Enc (den)
theorem str_len_app (x y : Str) : (x ++ y).length = x.length + y.length := by
  rw [TL.len_tl, TL.tl_append, List.length_append, ← TL.len_tl, ← TL.len_tl]
/-- a new bag -/
def spBag (K : PySem.W.Frag) : Sp := fun vs H Q _ => ∃ (M : List Addr) (v : V) (ns : List Int), vs = [v] ∧ Dom M H ∧ den K (hide M H) v ns ∧ ∀ b H', H b = none → Ex H H' → Dom (b :: M) H' → BagAt K (b :: M) H' b → Q (.ref b) H'
/-- some text -/
def spText (K : PySem.W.Frag) : Sp := fun vs H Q _ => ∃ (M : List Addr) (b : Addr), vs = [.ref b] ∧ Dom M H ∧ BagAt K M H b ∧ ∀ z H', z.length ≤ 100 → BagAt K M H' b → Bt [b] H H' → Dom M H' → Q (.str z) H'
section
variable {P : Program} {w : World} {K : PySem.W.Frag} {mg : Str → Option Value} {base : Heap} {f : Addr} {fd : FuncData}
theorem sc_bag : FnScope ["_law_script"] ["_law_script"] (defScope s__law_bag) := ⟨rfl, rfl, rfl, by decide +kernel, rfl, by decide +kernel, by decide +kernel⟩
theorem ok_bag (F : Fd K "_law_bag" "_law_bag" s__law_bag f fd) (hlist : mg "list" = none) : FnOk P w K mg base (L2.CX P w) 1 f fd ["_law_script"] (spBag K) := by
  refine F.ok sc_bag (fun vs H Q E h => ?_) (fun cdv A outer s H vs Q E hr h => ⟨_, pbw, ?_⟩)
  · obtain ⟨M, v, ns, rfl, _⟩ := h
    rfl
  obtain ⟨M, v, ns, rfl, dm, dv, k⟩ := h
  refine wb_retW (we_of (pe_lst (pa_cons (pe_callTy call_list_of rfl hlist (by decide +kernel) (pa_cons pw pa_nil)) (pa_cons pe_int (pa_cons pe_int (pa_cons pe_int pa_nil))))) ?_)
  refine we_cutL (i := 63) dm (ve_var 0 rfl dv) ve_int fun q vs H1 hq e1 h1 hd => ⟨q, vs, rfl, .inl (.inl (.inl h1)), fun r hr' => ⟨sz (show 4 ≤ 100000 by decide), fun b hb => ?_⟩⟩
  have e2 : Ex H1 (upd H1 r (.lst vs)) := Ex.new hr'
  have e3 : Ex (upd H1 r (.lst vs)) (upd (upd H1 r (.lst vs)) b (.lst [.ref r, .int 0, .int 0, .int 20011])) := Ex.new hb
  have eH := Ex.tr e1 (Ex.tr e2 e3)
  have hbH : H b = none := Ex.back (Ex.tr e1 e2) hb
  have hrM : r ∉ M := (dm.ex e1).fresh hr'
  have hrb : r ≠ b := ne_of_none (show (upd H1 r (.lst vs)) r = some (.lst vs) from upd_same) hb
  refine k b _ hbH eH ((dm.ex eH).cons upd_same) ⟨List.mem_cons_self, r, ns.take 63, 0, 0, 20011, upd_same, ⟨r, vs, rfl, .inl (.inl ?_), ?_⟩, by decide, by decide, by decide⟩
  · rw [hide_out fun z => (List.mem_cons.mp z).elim hrb hrM]
    exact e3 r _ upd_same
  · refine hd.imp fun x y z => ?_
    exact z
theorem sc_good : FnScope ["_law_text", "_law_sign"] ["_law_text"] (defScope s__law_good_name) := ⟨rfl, rfl, rfl, by decide +kernel, rfl, by decide +kernel, by decide +kernel⟩
theorem ok_good (F : Fd K "_law_good_name" "_law_good_name" s__law_good_name f fd) (hlen : mg "len" = none) (hall : mg "all" = none) : FnOk P w K mg base (L2.CX P w) 1 f fd ["_law_text"] (spP1 K (fun z : Str => z.length ≤ 50000) isName) := by
  refine F.ok sc_good (fun vs H Q E h => ?_) (fun cdv A outer s H vs Q E hr h => ⟨_, pbw, ?_⟩)
  · obtain ⟨M, v, a, rfl, _⟩ := h
    rfl
  obtain ⟨M, v, z, rfl, dm, dv, hz, k⟩ := h
  have hz' : z.length ≤ 100000 := by omega
  refine wb_ret dm (ve_and (ve_leLe ve_int (ve_lenS hlen (ve_var 0 rfl dv) hz') ve_int) fun _ => ve_one (ve_all hall rfl (ve_lc (j := 1) rfl sc_good.nd (vi_str (ve_var 0 rfl dv)) (by rw [signs_len]; omega) (blkOk_by (N := ["_law_text", "_law_sign"]) (sc := defScope s__law_good_name) (by decide +kernel)) fun q s H0 C cl fp H1 v1 x hq e1 d1 e2 hx dx => ?_))) fun u H1 e1 du => k u H1 e1 du
  have dx' : v1 = .str x := dx
  refine (vc_inSign (ch := x.cps.getD 0 0) (z := letters) (ve_var 1 rfl ?_) ve_str).ve
  rw [dx', ← sign_mem hx]
  rfl
abbrev nText : List Str := ["_law_bag_here", "_law_many", "_law_text", "_law_at", "_law_signs", "_law_k"]
theorem sc_text : FnScope nText ["_law_bag_here"] (defScope s__law_some_text) := ⟨rfl, rfl, rfl, by decide +kernel, rfl, by decide +kernel, by decide +kernel⟩
theorem ok_text (F : Fd K "_law_some_text" "_law_some_text" s__law_some_text f fd) (FP : FN P w K mg base "_law_pull" 1 (spPull K)) (hrange : mg "range" = none) : FnOk P w K mg base (L2.CX P w) 2 f fd ["_law_bag_here"] (spText K) := by
  refine F.ok sc_text (fun vs H Q E h => ?_) (fun cdv A outer s H vs Q E hr h => ⟨_, pbw, ?_⟩)
  · obtain ⟨M, b, rfl, _⟩ := h
    rfl
  obtain ⟨M, b, rfl, dm, bag, k⟩ := h
  -- many
  refine wb_setW (i := 1) sc_text.nd (we_pull takes0 FP hr dm bag (ve_raw 0 rfl) ve_int (by decide) (by decide) fun x H1 x0 x1 bag1 b1 d1 => ?_)
  -- the text
  refine wb_setW (i := 2) sc_text.nd (we_of (pe_join pe_str pw) ⟨⟨_, rfl⟩, ?_⟩)
  refine we_lcP (j := 5) rfl sc_text.nd d1 (vi_range hrange (ve_var 1 (y := x) rfl rfl) x0 (by omega)) (blkOk_by (N := nText) (sc := defScope s__law_some_text) (by decide +kernel))
    (fun H2 D i Hc => ∃ ss : List Str, Hc D = some (.lst (ss.map V.str)) ∧ ss.length = i ∧ (∀ z ∈ ss, z.length = 1) ∧ i ≤ x.toNat ∧ BagAt K (D :: M) Hc b ∧ Bt [b] H2 Hc ∧ Dom (D :: M) Hc)
    (fun H2 D e2 hD => ⟨[], upd_same, rfl, (fun _ z => nomatch z), Nat.zero_le _, (bag1.ex e2).more hD (Ex.new hD), Bt.ex (Ex.new hD), ((d1.ex e2).upd).cons upd_same⟩)
    (fun H2 D i Hc e2 hD p => p.elim fun ss q => q.2.2.2.2.2.1.sub fun y hy => by rw [List.mem_singleton.mp hy]; exact bag1.1) ?_ ?_
  · rintro H2 D i y v Ha Hb s' H0 C cl fp e2 hD hy ⟨ss, hs1, hs2, hs3, hi, bg, bt, da⟩ eb dx
    have hiy : i < x.toNat := by
      have := (List.getElem?_eq_some_iff.mp hy).1
      rw [List.length_range] at this
      exact this
    have hbD : b ≠ D := fun e => by
      obtain ⟨o, h1⟩ := (bag1.ex e2).at'
      rw [e, hD] at h1
      cases h1
    refine we_of (pe_ix ix_str pe_str pw (fun _ _ => rfl)) ?_
    refine we_pull takes0 FP hr (M := D :: M) (da.ex eb) (bg.ex eb) (ve_raw 0 rfl) ve_int (by decide) (by decide) fun c H3 c0 c1 bg3 b3 d3 => ?_
    have hc : c.toNat < 26 := by omega
    obtain ⟨ch, hch⟩ : ∃ ch, letters.cps.toList[c.toNat]? = some ch := ⟨_, List.getElem?_eq_getElem (show c.toNat < letters.cps.toList.length from Nat.lt_of_lt_of_eq hc rfl)⟩
    have h3 : H3 D = some (.lst (ss.map V.str)) := b3 D _ (by simpa using hbD.symm) (eb D _ hs1)
    refine ⟨letters, c, ch, rfl, rfl, sz (show 26 ≤ 100000 by decide), ?_, ss.map V.str, h3, by rw [List.length_map]; omega, ss ++ [⟨#[ch]⟩], ?_, by rw [List.length_append, hs2]; rfl, fun z hz => ?_, by omega, bg3.put List.mem_cons_self hbD, ?_, d3.upd⟩
    · have hcc : c = (c.toNat : Int) := by omega
      rw [hcc]
      exact atI_nat hch
    · rw [upd_same, List.map_append]
      rfl
    · rcases List.mem_append.mp hz with z1 | z1
      · exact hs3 z z1
      · rw [List.mem_singleton.mp z1]
        rfl
    · intro a o ha ho
      rw [upd_ne (ne_of_none ho hD)]
      exact b3 a o ha (eb a o (bt a o ha ho))
  rintro H2 D Hc e2 hD ⟨ss, hs1, hs2, hs3, hi, bg, bt, da⟩
  rw [List.length_range] at hs2
  have hbD : b ≠ D := fun e => by
    obtain ⟨o, h1⟩ := (bag1.ex e2).at'
    rw [e, hD] at h1
    cases h1
  have bgc : BagAt K M Hc b := bg.less hbD
  have b2 : Bt [b] H Hc := b1.tr ((Bt.ex e2).tr bt)
  have d2 : Dom M Hc := fun a ha => da a (List.mem_cons_of_mem _ ha)
  have hsum : (ss.map (·.length)).sum = ss.length := by
    have : ss.map (·.length) = ss.map fun _ => 1 := List.map_congr_left hs3
    rw [this]
    clear this hs3 hs2 hs1
    induction ss with
    | nil => rfl
    | cons _ _ ih => rw [List.map_cons, List.sum_cons, ih, List.length_cons]; omega
  have hlen : (Txt.join "" ss).length ≤ 9 := by rw [len_joinE, hsum]; omega
  refine ⟨"", D, ss, rfl, rfl, .inl (.inl (.inl hs1)), by rw [hsum]; show ss.length + ss.length * 0 ≤ 16777216; omega, ?_⟩
  generalize hz : Txt.join "" ss = z at hlen
  show WB _ _ _ [some (.ref b), some (.int x), some (.str z), none, none, none] Hc
  -- at
  refine wb_setW (i := 3) sc_text.nd (we_pull takes0 FP hr d2 bgc (ve_raw 0 rfl) (ve_add (ve_var 1 (y := x) rfl rfl) ve_int) (by omega) (by omega) fun at_ H3 a0 a1 bag3 b3 d3 => ?_)
  -- if pull(3) == 0
  refine wb_cut (fun σ' H' => ∃ (z' : Str) (v4 : Option V), z'.length ≤ 100 ∧ σ' = [some (.ref b), some (.int x), some (.str z'), some (.int at_), v4, none] ∧ BagAt K M H' b ∧ Bt [b] H H' ∧ Dom M H') ?_ ?_
  · refine ws_of (ps_if (pt_cmp (pc_op op_eq)) pbw pbw) ?_
    refine we_pull takes0 FP hr d3 bag3 (ve_raw 0 rfl) ve_int (by decide) (by decide) fun c H4 c0 c1 bag4 b4 d4 => ?_
    refine ve_int (M := M) H4 Ex.rfl' d4 _ fun u H5 e5 du => ?_
    rw [show u = .int 0 from du]
    refine ⟨rfl, _, rfl, ?_⟩
    have b5 : Bt [b] H H5 := ((b2.tr b3).tr b4).tr (Bt.ex e5)
    have bag5 := bag4.ex e5
    have d5 := d4.ex e5
    by_cases hc : decide (V.int c = V.int 0) = true
    · rw [hc]
      refine iteT ?_
      refine wb_set (i := 4) (M := M) sc_text.nd d5 ve_str fun v6 H6 e6 dv6 => ?_
      refine wb_setW (i := 2) sc_text.nd (we_of (pe_op op_add_str (pe_op op_add_str pw (pe_ix ix_str pw pw (fun _ _ => rfl))) pw) ?_)
      have d6 := d5.ex e6
      have bag6 := bag5.ex e6
      refine ve_cutTo (M := M) (z := z) (i := at_) (ve_var 2 rfl rfl) (ve_var 3 rfl rfl) (by omega) H6 Ex.rfl' d6 _ fun u7 H7 e7 du7 => ?_
      refine VE.go (M := M) (ve_var 4 (y := (" AZ09_-:#=[],.;~/@{}" : Str)) rfl dv6) e7 (d6.ex e7) fun u8 H8 e8 du8 => ?_
      refine we_pull takes0 FP hr (M := M) ((d6.ex e7).ex e8) ((bag6.ex e7).ex e8) (ve_raw 0 rfl) ve_int (by decide) (by decide) fun g H9 g0 g1 bag9 b9 d9 => ?_
      have hg : g.toNat < 20 := by omega
      obtain ⟨ch, hch⟩ : ∃ ch, (" AZ09_-:#=[],.;~/@{}" : Str).cps.toList[g.toNat]? = some ch := ⟨_, List.getElem?_eq_getElem (show g.toNat < (" AZ09_-:#=[],.;~/@{}" : Str).cps.toList.length from Nat.lt_of_lt_of_eq hg rfl)⟩
      have hcut1 := cutS_length z none (some at_)
      have hcut2 := cutS_length z (some (at_ + 1)) none
      have hat : atI (" AZ09_-:#=[],.;~/@{}" : Str).cps.toList g = some ch := by
        have hgg : g = (g.toNat : Int) := by omega
        rw [hgg]
        exact atI_nat hch
      refine ⟨" AZ09_-:#=[],.;~/@{}", g, ch, du8, rfl, sz (show 20 ≤ 100000 by decide), hat, cutS z none (some at_), ⟨#[ch]⟩, du7, rfl, sz (by show (cutS z none (some at_)).length + 1 ≤ 100000; omega), ?_⟩
      refine ve_cutFrom (M := M) (z := z) (i := at_ + 1) (ve_var 2 rfl rfl) (ve_add (ve_var 3 (y := at_) rfl rfl) ve_int) (by omega) H9 Ex.rfl' d9 _ fun u10 H10 e10 du10 => ?_
      refine ⟨_, cutS z (some (at_ + 1)) none, rfl, du10, sz ?_, wb_nil ⟨_, _, ?_, rfl, bag9.ex e10, ?_, d9.ex e10⟩⟩
      · rw [str_len_app]
        show (cutS z none (some at_)).length + 1 + _ ≤ _
        omega
      · rw [str_len_app, str_len_app]
        show (cutS z none (some at_)).length + 1 + _ ≤ _
        omega
      · exact ((b5.tr (Bt.ex (Ex.tr e6 (Ex.tr e7 e8)))).tr b9).tr (Bt.ex e10)
    · rw [show decide (V.int c = V.int 0) = false by simpa using hc]
      exact iteF (wb_nil ⟨z, none, by omega, rfl, bag5, b5, d5⟩)
  rintro _ H' ⟨z', v4, hz', rfl, bag', b', d'⟩
  exact wb_ret (M := M) d' (ve_var 2 (y := z') rfl rfl) fun u H'' e'' du => by
    rw [show u = .str z' from du]
    exact k z' H'' hz' (bag'.ex e'') (b'.tr (Bt.ex e'')) (d'.ex e'')
end
end Tm
set_option maxHeartbeats 4000000
namespace Tm
open PySem PySem.Spec PyProof.Rows L2 Pl
open Enc (den)
section
variable {X : Cx} {M : List Addr} {σ : L2.St} {H : Hp} {e : Expr} {pos : Pos}
/-- e.f, e what was caught -/
theorem ve_xf {a C dd : Addr} {oe : Obj} {pn : List (Addr × Obj)} {fs : List (Str × V)} {f : Str} {v : V} (T : XfC X.K C) (hno : PySem.W.findIn X.K (.ref C) f = some none) (hz : Zc (.ref C) (some dd) oe) (hf : ∃ vs, oe.data = .fields vs)
    (he : VE (X.suite a ((a, oe) :: pn)) M σ H e (V.ref a)) (hd : H dd = some (.xd fs)) (hl : fs.lookup f = some v) (hb : attributeBase e f X.env (eval e X.env) = eval e X.env := by rfl) : VE (X.suite a ((a, oe) :: pn)) M σ H (.Attribute e f pos) v :=
  ve_rule (pe_xf T hno hz hf pw hb) fun H1 e1 d Q q => he H1 e1 d _ fun u H2 e2 du => ⟨du, rfl, dd, fs, v, rfl, Ex.tr e1 e2 dd _ hd, hl, q v H2 e2 rfl⟩
end
/-- the suite of the i-th clause of a try -/
abbrev hdBody (st : Stmt) (i : Nat) : List Stmt := match st with
  | .Try _ hs _ _ _ => (match hs[i]? with
    | some (.ExceptHandler _ _ b _) => b
    | _ => [])
  | _ => []
/-- what k01 asks of put, told -/
def putRes (t : Tab) (n : Str) : Str × Str := if isName n = false then ("BadName", n) else if (aGet t.right n).isSome = true then ("Taken", n) else ("", "")
def putTab (t : Tab) (n : Str) (ups : List Str) : Tab := if isName n = true ∧ (aGet t.right n).isSome = false then enterT t n (srt (uniq ups)) ⟨[]⟩ ⟨[]⟩ else t
/-- when put1's promise speaks -/
structure Put1Ok (t : Tab) (n : Str) (ups : List Str) : Prop where
  nl : n.length ≤ 50000
  sm : SmallT t
  o24 : t.order.length < 24
  u0 : ups ≠ []
  u64 : ups.length < 64
  up : ∀ up ∈ ups, (aGet t.right up).isSome = true ∧ (aGet t.uppers up).isSome = true ∧ aGet t.lets up = some ⟨[]⟩
  z1 : (ups.flatMap (upsOf t)).length ≤ 5000
  a1 : (aboveOf t ups).length < 64
  z2 : ((srt (uniq ups)).flatMap (upsOf t)).length ≤ 5000
  a2 : (aboveOf t (srt (uniq ups))).length ≤ 200
  fk : forkOf t.lowest (aboveOf t ups) = none
def spTold1 (C : Addr) (K : PySem.W.Frag) : Sp := fun vs H Q _ => ∃ (M : List Addr) (a : KA) (t : Tab) (vn vu vr : V) (n : Str) (ups : List Str), vs = [.ref a.p, vn, vu, vr] ∧ Dom M H ∧ KindsAt C K M H a t ∧ den K (hide M H) vn n ∧ den K (hide M H) vu ups ∧ den K (hide M H) vr ([] : List (Str × Str)) ∧ Put1Ok t n ups ∧
  ∀ u H', den K (hide M H') u (putRes t n) → KindsAt C K M H' a (putTab t n ups) → Bt a.all H H' → Dom M H' → Q u H'
section
variable {P : Program} {w : World} {K : PySem.W.Frag} {mg : Str → Option Value} {base : Heap} {f C : Addr} {fd : FuncData}
abbrev nTold1 : List Str := ["_law_made", "_law_name", "_law_ups", "_law_some_rooms", "_law_told", "e"]
theorem sc_told1 : FnScope nTold1 ["_law_made", "_law_name", "_law_ups", "_law_some_rooms"] (defScope s__law_put_told) := ⟨rfl, rfl, rfl, by decide +kernel, rfl, by decide +kernel, by decide +kernel⟩
/-- an error class of the third clause -/
structure In3 (K : PySem.W.Frag) (mg : Str → Option Value) (C : Addr) : Prop where
  xf : XfC K C
  nc : PySem.W.findIn K (.ref C) "called" = some none
  nn : PySem.W.findIn K (.ref C) "name" = some none
  m1 : ∀ c, mg "Forked" = some c → PySem.W.exmAny K (.ref C) [c] = some false
  m2 : ∀ c1 c2 c3 c4, mg "Twice" = some c1 → mg "Strange" = some c2 → mg "Wider" = some c3 → mg "NoFit" = some c4 → PySem.W.exmAny K (.ref C) [c1, c2, c3, c4] = some false
  m3 : ∀ c1 c2 c3 c4, mg "BadName" = some c1 → mg "Taken" = some c2 → mg "Ring" = some c3 → mg "NoKind" = some c4 → PySem.W.exmAny K (.ref C) [c1, c2, c3, c4] = some true
theorem ok_told1 {CB CT : Addr} {e1 e2 e3 e4 e5 e6 e7 e8 e9 e10 e11 : Value} (F : Fd K "_law_put_told" "_law_put_told" s__law_put_told f fd) (c : KC K C) (mPut : MEK P w K mg base C "put" 5 3 ["rooms"] (spPut1 C CB CT K)) (iB : In3 K mg CB) (iT : In3 K mg CT)
    (g1 : mg "Forked" = some e1) (g2 : mg "Twice" = some e2) (g3 : mg "Strange" = some e3) (g4 : mg "Wider" = some e4) (g5 : mg "NoFit" = some e5) (g6 : mg "BadName" = some e6) (g7 : mg "Taken" = some e7) (g8 : mg "Ring" = some e8) (g9 : mg "NoKind" = some e9) (g10 : mg "Full" = some e10) (g11 : mg "BadParts" = some e11) :
    FnOk P w K mg base (L2.CX P w) 6 f fd ["_law_made", "_law_name", "_law_ups", "_law_some_rooms"] (spTold1 C K) := by
  refine F.ok sc_told1 (fun vs H Q E h => ?_) (fun cdv A outer s H vs Q E hr h => ⟨_, pbw, ?_⟩)
  · obtain ⟨M, a, t, vn, vu, vr, n, ups, rfl, _⟩ := h
    rfl
  obtain ⟨M, a, t, vn, vu, vr, n, ups, rfl, dm, ka, dn, du, dr, ok, k⟩ := h
  have inA : ∀ x ∈ a.all, x ∈ M := fun x hx => ka.inM x (List.mem_cons_of_mem _ hx)
  -- told = ("", "")
  refine wb_set (i := 4) sc_told1.nd dm (ve_pair (x := ("" : Str)) (y := ("" : Str)) ve_str ve_str) fun v0 H0 e0 d0 => ?_
  refine wb_cut (fun σ' H' => ∃ u v5, σ' = [some (.ref a.p), some vn, some vu, some vr, some u, v5] ∧ den K (hide M H') u (putRes t n) ∧ KindsAt C K M H' a (putTab t n ups) ∧ Bt a.all H H' ∧ Dom M H') ?_ ?_
  · refine ws_try (i := 5) (n := "e") rfl rfl sc_told1.nd rfl rfl takes_cx
      (.cons (ct_one ⟨rfl, by decide, .inl g1⟩) (.cons (ct_four ⟨rfl, by decide, .inl g2⟩ ⟨rfl, by decide, .inl g3⟩ ⟨rfl, by decide, .inl g4⟩ ⟨rfl, by decide, .inl g5⟩) (.cons (ct_four ⟨rfl, by decide, .inl g6⟩ ⟨rfl, by decide, .inl g7⟩ ⟨rfl, by decide, .inl g8⟩ ⟨rfl, by decide, .inl g9⟩) (.cons (ct_two ⟨rfl, by decide, .inl g10⟩ ⟨rfl, by decide, .inl g11⟩) .nil)))) fun pn xe tk po => ?_
    have dm0 := dm.ex e0
    have k0 := ka.ex e0
    -- the suite of the third clause
    have third : ∀ {CX : Addr} {x : Str} {d : Addr} {H' : Hp} {b1 b2 b4 : List Stmt}, In3 K mg CX → Ex H0 H' → H' d = some (.xd [("name", .str n), ("called", .str x)]) → putRes t n = (x, n) → putTab t n ups = t →
        wTry (cxOf (L2.CX P w) P w K mg base nTold1 "_law_put_told" (defScope s__law_put_told) f cdv A outer s H E) 5 (fun cls d _ H' => E cls d H') { nx := fun σ' H' => ∃ u v5, σ' = [some (.ref a.p), some vn, some vu, some vr, some u, v5] ∧ den K (hide M H') u (putRes t n) ∧ KindsAt C K M H' a (putTab t n ups) ∧ Bt a.all H H' ∧ Dom M H', rt := Q }
          [([e1], b1), ([e2, e3, e4, e5], b2), ([e6, e7, e8, e9], hdBody ((defBody s__law_put_told).getD 1 (.Pass ⟨0, 0, 0, 0⟩)) 2), ([e10, e11], b4)] (.ref CX) (some d) [some (.ref a.p), some vn, some vu, some vr, some v0, none] H' := by
      intro CX x d H' b1 b2 b4 i3 eH hd hres htab
      refine ⟨false, i3.m1 _ g1, (fun z => nomatch z), fun _ => ⟨false, i3.m2 _ _ _ _ g2 g3 g4 g5, (fun z => nomatch z), fun _ => ⟨true, i3.m3 _ _ _ _ g6 g7 g8 g9, fun _ a' oe pn' ha' hz hf => ?_, (fun z => nomatch z)⟩⟩⟩
      have e0H := Ex.tr e0 eH
      refine wb_set (i := 4) (M := M) (y := (x, n)) sc_told1.nd (dm.ex e0H) (ve_pair (x := x) (y := n) (ve_xf (v := .str x) i3.xf i3.nc hz hf (ve_raw 5 rfl) hd rfl) (ve_xf (v := .str n) i3.xf i3.nn hz hf (ve_raw 5 rfl) hd rfl)) fun u H1 e1' du => wb_nil ?_
      refine ⟨u, none, rfl, ?_, ?_, Bt.ex (Ex.tr e0H e1'), dm.ex (Ex.tr e0H e1')⟩
      · rw [hres]
        exact du
      · rw [htab]
        exact ka.ex (Ex.tr e0H e1')
    refine wb_ifW (wt_of (pt_cmp (pc_notN pw)) ?_)
    refine we_methK (n := 3) (ks := ["rooms"]) tk c.cl mPut hr (pk_cons pw pk_nil) ?_
    refine VE.go (M := M) (ve_raw 0 rfl) Ex.rfl' dm0 fun v1 H1 e1' dv1 => ⟨a.p, a.dx, a.fs, dv1, e1' _ _ k0.hp, rfl, ?_⟩
    have e01 := Ex.tr e0 e1'
    refine wa2 (M := M) (dm.ex e01) (ve_var 1 (y := n) rfl (Enc.mono (Ex.hide e01) dn)) (ve_var 2 (y := ups) rfl (Enc.mono (Ex.hide e01) du)) fun v2 v3 H2 e2' dv2 dv3 => ?_
    have e02 := Ex.tr e01 e2'
    refine VE.go (M := M) (ve_var 3 (y := ([] : List (Str × Str))) rfl (Enc.mono (Ex.hide e02) dr)) Ex.rfl' (dm.ex e02) fun v4 H3 e3' dv4 => ?_
    have e03 := Ex.tr e02 e3'
    have e0_3 : Ex H0 H3 := Ex.tr e1' (Ex.tr e2' e3')
    refine ⟨rfl, rfl, M, a, t, v2, v3, v4, n, ups, rfl, dm.ex e03, ka.ex e03, Enc.mono (Ex.hide e3') dv2, Enc.mono (Ex.hide e3') dv3, dv4, ok.nl, ok.sm, ok.o24, ok.u0, ok.u64, ok.up, ok.z1, ok.a1, ok.z2, ok.a2, ok.fk, ?_, ?_, ?_⟩
    · intro hN d H4 hd e4' hx
      have h1 : putRes t n = (("BadName" : Str), n) := if_pos hN
      have h2 : putTab t n ups = t := if_neg fun z => by rw [hN] at z; exact Bool.false_ne_true z.1
      exact third iB (Ex.tr e0_3 e4') hx h1 h2
    · intro hN hT d H4 hd e4' hx
      have h1 : putRes t n = (("Taken" : Str), n) := by
        unfold putRes
        rw [if_neg (by rw [hN]; exact fun z => nomatch z), if_pos hT]
      have h2 : putTab t n ups = t := if_neg fun z => by rw [hT] at z; exact Bool.false_ne_true z.2.symm
      exact third iT (Ex.tr e0_3 e4') hx h1 h2
    · intro hN hT H4 k4 b4 d4
      have h1 : putRes t n = (("" : Str), ("" : Str)) := by
        unfold putRes
        rw [if_neg (by rw [hN]; exact fun z => nomatch z), if_neg (by rw [hT]; exact fun z => nomatch z)]
      have h2 : putTab t n ups = enterT t n (srt (uniq ups)) ⟨[]⟩ ⟨[]⟩ := if_pos ⟨hN, hT⟩
      refine ⟨false, rfl, iteF (wb_nil (wb_nil ⟨v0, none, rfl, ?_, ?_, (Bt.ex e03).tr b4, d4⟩))⟩
      · rw [h1]
        exact Enc.mono (Ex.tr (Ex.hide e0_3) (b4.hide inA)) d0
      · rw [h2]
        exact k4
  rintro _ H1 ⟨u, v5, rfl, hu, hk, hb, hd⟩
  exact wb_retW (VE.go (M := M) (ve_raw 4 rfl) Ex.rfl' hd fun u' H2 e2 du' => by
    rw [show u' = u from du']
    exact k u H2 (Enc.mono (Ex.hide e2) hu) (hk.ex e2) (hb.tr (Bt.ex e2)) (hd.ex e2))
end
end Tm
set_option maxHeartbeats 4000000
namespace Tm
open PySem PySem.Spec PyProof.Rows L2 Pl
open Enc (den)
/-! ### == of plain data -/
mutual
theorem eqv_refl : ∀ d : PyData, d.plain = true → PyData.eqv d d = true
  | .none, _ => rfl
  | .bool b, _ => by simp [PyData.eqv]
  | .int i, _ => by simp [PyData.eqv]
  | .str x, _ => by simp [PyData.eqv]
  | .list xs, h => by
    show PyData.eqvAll xs xs = true
    exact eqvAll_refl xs h
  | .tuple xs, h => by
    show PyData.eqvAll xs xs = true
    exact eqvAll_refl xs h
  | .dict _, h => nomatch h
theorem eqvAll_refl : ∀ ds : List PyData, PyData.plainAll ds = true → PyData.eqvAll ds ds = true
  | [], _ => rfl
  | d :: ds, h => by
    obtain ⟨h1, h2⟩ := Bool.and_eq_true_iff.mp (show (d.plain && PyData.plainAll ds) = true from h)
    show (PyData.eqv d d && PyData.eqvAll ds ds) = true
    rw [eqv_refl d h1, eqvAll_refl ds h2]
    rfl
end
class EncP (α : Type) extends Enc α where
  py : α → PyData
  dep : Nat
  dp : ∀ {K : PySem.W.Frag} {H : Hp} {v : V} {a : α}, den K H v a → Dp K H v (py a)
  pl : ∀ a, (py a).plain = true
  de : ∀ a, (py a).depth ≤ dep
open EncP (py)
instance : EncP Unit := { (inferInstance : Enc Unit) with py := fun _ => .none, dep := 0, dp := fun h => by rw [h]; exact .non, pl := fun _ => rfl, de := fun _ => Nat.le_refl _ }
instance : EncP Bool := { (inferInstance : Enc Bool) with py := fun b => .bool b, dep := 0, dp := fun h => by rw [h]; exact .bl _, pl := fun _ => rfl, de := fun _ => Nat.le_refl _ }
instance : EncP Int := { (inferInstance : Enc Int) with py := fun b => .int b, dep := 0, dp := fun h => by rw [h]; exact .int _, pl := fun _ => rfl, de := fun _ => Nat.le_refl _ }
instance : EncP Str := { (inferInstance : Enc Str) with py := fun b => .str b, dep := 0, dp := fun h => by rw [h]; exact .str _, pl := fun _ => rfl, de := fun _ => Nat.le_refl _ }
instance {α β : Type} [EncP α] [EncP β] : EncP (α × β) :=
  { (inferInstance : Enc (α × β)) with
    py := fun c => .tuple [py c.1, py c.2]
    dep := max (EncP.dep α) (EncP.dep β) + 1
    dp := fun h => by
      obtain ⟨p, x, y, rfl, h2, h3, h4⟩ := h
      exact .tup h2 (.cons (EncP.dp h3) (.cons (EncP.dp h4) .nil))
    pl := fun c => by
      show ((py c.1).plain && ((py c.2).plain && true)) = true
      rw [EncP.pl, EncP.pl]
      rfl
    de := fun c => by
      have h1 := EncP.de (α := α) c.1
      have h2 := EncP.de (α := β) c.2
      show max (py c.1).depth (max (py c.2).depth 0) + 1 ≤ _
      omega }
instance {α : Type} [EncP α] : EncP (List α) :=
  { (inferInstance : Enc (List α)) with
    py := fun l => .list (l.map py)
    dep := EncP.dep α + 1
    dp := fun {K H v a} h => by
      obtain ⟨p, vs, rfl, h2, h3⟩ := h
      refine .lst h2 ?_
      clear h2
      induction h3 with
      | nil => exact .nil
      | cons r _ ih => exact .cons (EncP.dp r) ih
    pl := fun l => by
      show PyData.plainAll (l.map py) = true
      induction l with
      | nil => rfl
      | cons x l ih =>
        show ((py x).plain && PyData.plainAll (l.map py)) = true
        rw [EncP.pl, ih]
        rfl
    de := fun l => by
      show PyData.depthAll (l.map py) + 1 ≤ EncP.dep α + 1
      have : PyData.depthAll (l.map py) ≤ EncP.dep α := by
        induction l with
        | nil => exact Nat.zero_le _
        | cons x l ih =>
          have h1 := EncP.de x
          show max (py x).depth (PyData.depthAll (l.map py)) ≤ _
          omega
      omega }
section
variable {X : Cx} {M : List Addr} {σ : L2.St} {H H' : Hp} {a b : Expr} {α : Type} [EncP α]
theorem dp_mono {K : PySem.W.Frag} {x : α} {v : V} (h : den K (hide M H) v x) : Dp K H v (py x) := EncP.dp (Enc.mono hide_le h)
def rEqPl (K : PySem.W.Frag) : R2 := fun x y H Q => ∃ d e, Dp K H x d ∧ Dp K H y e ∧ d.plain = true ∧ e.plain = true ∧ d.depth ≤ 60 ∧ Q (.bl (PyData.eqv d e)) H
def rNePl (K : PySem.W.Frag) : R2 := fun x y H Q => ∃ d e, Dp K H x d ∧ Dp K H y e ∧ d.plain = true ∧ e.plain = true ∧ d.depth ≤ 60 ∧ Q (.bl (!PyData.eqv d e)) H
theorem op_eqPl (hu : X.A.units + 64 < cLine) : OpR X (compareOp .Eq) (rEqPl X.K) := by
  intro pins s σ H x y v u Q I rx ry h
  obtain ⟨d, e, hd, he, sd, se, hz, q⟩ := h
  obtain ⟨as, r1⟩ := Dp.reads I d x v hd rx
  obtain ⟨bs, r2⟩ := Dp.reads I e y u he ry
  exact SeqAt.eq_plain r1 r2 sd se (by omega) ⟨.bl _, H, I, rfl, q⟩
theorem op_nePl (hu : X.A.units + 64 < cLine) : OpR X (compareOp .NotEq) (rNePl X.K) := by
  intro pins s σ H x y v u Q I rx ry h
  obtain ⟨d, e, hd, he, sd, se, hz, q⟩ := h
  obtain ⟨as, r1⟩ := Dp.reads I d x v hd rx
  obtain ⟨bs, r2⟩ := Dp.reads I e y u he ry
  exact SeqAt.rcNe_plain r1 r2 sd se (by omega) X.prog X.w _ _ ⟨.bl _, H, I, rfl, q⟩
theorem vc_eqP {x y : α} (hu : X.A.units + 64 < cLine) (ha : VE X M σ H a x) (hb : VE X M σ H b y) (hd : EncP.dep α ≤ 60 := by decide) : VC X M σ H .Eq a b (PyData.eqv (py x) (py y)) := vc_rule (pc_op (op_eqPl hu)) fun H1 e1 d Q q => two ha hb e1 d fun v u H2 e2 _ dv du =>
  ⟨_, _, dp_mono dv, dp_mono du, EncP.pl _, EncP.pl _, Nat.le_trans (EncP.de _) hd, q H2 e2⟩
theorem vc_neP {x y : α} (hu : X.A.units + 64 < cLine) (ha : VE X M σ H a x) (hb : VE X M σ H b y) (hd : EncP.dep α ≤ 60 := by decide) : VC X M σ H .NotEq a b (!PyData.eqv (py x) (py y)) := vc_rule (pc_op (op_nePl hu)) fun H1 e1 d Q q => two ha hb e1 d fun v u H2 e2 _ dv du =>
  ⟨_, _, dp_mono dv, dp_mono du, EncP.pl _, EncP.pl _, Nat.le_trans (EncP.de _) hd, q H2 e2⟩
theorem eqv_self (x : α) : PyData.eqv (py x) (py x) = true := eqv_refl _ (EncP.pl x)
end
end Tm
set_option maxHeartbeats 4000000
namespace Tm
open PySem PySem.Spec PyProof.Rows L2 Pl
open Enc (den)
abbrev any1 : Str := "any"
/-! ### the plain part: tables of kinds right below any -/
theorem aGet_put_self {β : Type} (kv : List (Str × β)) (k : Str) (b : β) : aGet (aPut kv k b) k = some b := by
  unfold aPut
  split
  · rename_i h
    unfold aGet
    induction kv with
    | nil => simp at h
    | cons z kv ih =>
      rw [List.map_cons, List.find?_cons]
      by_cases e : z.1 = k
      · rw [if_pos e, decide_eq_true e]
        rfl
      · rw [if_neg e, decide_eq_false e]
        refine ih ?_
        rw [List.any_cons, decide_eq_false e, Bool.false_or] at h
        exact h
  · rename_i h
    unfold aGet
    rw [List.find?_append]
    have : kv.find? (fun z => decide (z.1 = k)) = none := List.find?_eq_none.mpr fun x hx hk => h (List.any_eq_true.mpr ⟨x, hx, hk⟩)
    rw [this]
    simp
theorem aGet_put_ne {β : Type} (kv : List (Str × β)) {k j : Str} (b : β) (hn : k ≠ j) : aGet (aPut kv k b) j = aGet kv j := by
  unfold aPut
  split
  · rename_i h
    clear h
    unfold aGet
    induction kv with
    | nil => rfl
    | cons z kv ih =>
      rw [List.map_cons, List.find?_cons, List.find?_cons]
      by_cases e : z.1 = k
      · rw [if_pos e]
        have hj : ¬ z.1 = j := fun h => hn (e.symm.trans h)
        rw [decide_eq_false hj]
        exact ih
      · rw [if_neg e]
        by_cases hj : z.1 = j
        · rw [decide_eq_true hj]
        · rw [decide_eq_false hj]
          exact ih
  · unfold aGet
    rw [List.find?_append]
    cases h : kv.find? (fun z => decide (z.1 = j)) with
    | some _ => rfl
    | none => simp [hn]
theorem aPut_len {β : Type} (kv : List (Str × β)) (k : Str) (b : β) : (aPut kv k b).length ≤ kv.length + 1 := by
  unfold aPut
  split
  · rw [List.length_map]
    omega
  · rw [List.length_append]
    exact Nat.le_refl _
theorem srt_single (x : Str) : srt [x] = [x] := List.perm_singleton.mp (srt_perm [x])
theorem su_any : srt (uniq [any1]) = [any1] := by
  have : uniq [any1] = [any1] := by decide
  rw [this, srt_single]
structure T1 (t : Tab) (i : Nat) : Prop where
  ord : t.order.length ≤ i + 1
  rt : ∀ n, (aGet t.right n).isSome = decide (n ∈ t.order)
  up : aGet t.uppers any1 = some ⟨[any1]⟩
  le : aGet t.lets any1 = some ⟨[]⟩
  an : any1 ∈ t.order
  l1 : t.right.length ≤ i + 1
  l2 : t.spoken.length ≤ i + 1
  l3 : t.lets.length ≤ i + 1
  l4 : t.uppers.length ≤ i + 1
  l5 : t.homes.length ≤ 0
  l6 : t.lowest.length ≤ 1 + 4 * i
theorem T1.mono {t : Tab} {i j : Nat} (h : T1 t i) (hij : i ≤ j) : T1 t j :=
  ⟨by have := h.ord; omega, h.rt, h.up, h.le, h.an, by have := h.l1; omega, by have := h.l2; omega, by have := h.l3; omega, by have := h.l4; omega, h.l5, by have := h.l6; omega⟩
theorem T1.zero : T1 tab0 0 := by
  refine ⟨by decide, fun n => ?_, rfl, rfl, by decide, by decide, by decide, by decide, by decide, by decide, by decide⟩
  by_cases h : n = any1
  · rw [h]
    rfl
  · have e1 : aGet tab0.right n = none := by
      show (List.find? _ [(any1, ([] : List Str))]).map _ = none
      rw [List.find?_cons, decide_eq_false (fun z => h z.symm)]
      rfl
    rw [e1]
    show false = decide (n ∈ [any1])
    rw [decide_eq_false fun z => h (List.mem_singleton.mp z)]
theorem T1.ups {t : Tab} {i : Nat} (h : T1 t i) : upsOf t any1 = [any1] := by
  unfold upsOf
  rw [h.up]
  rfl
theorem T1.above {t : Tab} {i : Nat} (h : T1 t i) : aboveOf t [any1] = [any1] := by
  unfold aboveOf unionK
  show (upsOf t any1 ++ []).foldl addS [] = _
  rw [h.ups]
  decide
theorem T1.flat {t : Tab} {i : Nat} (h : T1 t i) : ([any1] : List Str).flatMap (upsOf t) = [any1] := by
  show upsOf t any1 ++ [] = _
  rw [h.ups]
  rfl
theorem T1.ok {t : Tab} {i : Nat} (h : T1 t i) (hi : i ≤ 20) {n : Str} (hn : n.length ≤ 50000) : Put1Ok t n [any1] where
  nl := hn
  sm := by
    have := h.ord; have := h.l1; have := h.l2; have := h.l3; have := h.l4; have := h.l5; have := h.l6
    exact ⟨by omega, by omega, by omega, by omega, by omega, by omega, by omega⟩
  o24 := by have := h.ord; omega
  u0 := fun z => nomatch z
  u64 := by decide
  up := fun up hm => by
    rw [List.mem_singleton.mp hm]
    refine ⟨?_, by rw [h.up]; rfl, h.le⟩
    rw [h.rt, decide_eq_true h.an]
  z1 := by rw [h.flat]; decide
  a1 := by rw [h.above]; decide
  z2 := by rw [su_any, h.flat]; decide
  a2 := by rw [su_any, h.above]; decide
  fk := by
    rw [h.above]
    unfold forkOf
    rw [srt_single]
    have e : isFork t.lowest [any1] any1 any1 = false := by
      unfold isFork
      rw [show ltS any1 any1 = false by decide]
      rfl
    rw [List.findSome?_cons, List.findSome?_cons, if_neg (by rw [e]; exact Bool.false_ne_true)]
    rfl
theorem T1.step {t : Tab} {i : Nat} (h : T1 t i) (n : Str) : T1 (putTab t n [any1]) (i + 1) := by
  unfold putTab
  split
  · rename_i hc
    obtain ⟨_, hc⟩ := hc
    have hno : n ∉ t.order := by
      rw [h.rt] at hc
      exact of_decide_eq_false hc
    have hna : n ≠ any1 := fun e => hno (by rw [e]; exact h.an)
    rw [su_any]
    have hab : addS (aboveOf t [any1]) n = [any1, n] := by
      rw [h.above]
      unfold addS
      rw [if_neg fun z => hna (List.mem_singleton.mp z)]
      rfl
    refine ⟨?_, fun m => ?_, ?_, ?_, List.mem_append_left _ h.an, ?_, ?_, ?_, ?_, h.l5, ?_⟩
    · show (t.order ++ [n]).length ≤ _
      rw [List.length_append]
      have := h.ord
      show t.order.length + 1 ≤ _
      omega
    · show (aGet (aPut t.right n _) m).isSome = decide (m ∈ t.order ++ [n])
      by_cases e : n = m
      · rw [← e, aGet_put_self, decide_eq_true (List.mem_append_right _ (List.mem_singleton.mpr rfl))]
        rfl
      · rw [aGet_put_ne _ _ e, h.rt]
        by_cases hm : m ∈ t.order
        · rw [decide_eq_true hm, decide_eq_true (List.mem_append_left _ hm)]
        · rw [decide_eq_false hm, decide_eq_false fun z => (List.mem_append.mp z).elim hm fun y => e (List.mem_singleton.mp y).symm]
    · show aGet (aPut t.uppers n _) any1 = _
      rw [aGet_put_ne _ _ hna]
      exact h.up
    · show aGet (aPut t.lets n _) any1 = _
      rw [aGet_put_ne _ _ hna]
      exact h.le
    · have := aPut_len t.right n [any1]; have := h.l1; show (aPut t.right n _).length ≤ _; omega
    · have := aPut_len t.spoken n ⟨[]⟩; have := h.l2; show (aPut t.spoken n _).length ≤ _; omega
    · have := aPut_len t.lets n ⟨[]⟩; have := h.l3; show (aPut t.lets n _).length ≤ _; omega
    · have := aPut_len t.uppers n ⟨addS (aboveOf t [any1]) n⟩; have := h.l4; show (aPut t.uppers n _).length ≤ _; omega
    · show (lowsOf t.lowest (addS (aboveOf t [any1]) n) n).length ≤ _
      rw [hab]
      have := fold_lows_len n [any1, n] [any1, n] t.lowest
      have e : ([any1, n] : List Str).length * ([any1, n] : List Str).length = 4 := rfl
      have := h.l6
      show (List.foldl _ t.lowest [any1, n]).length ≤ _
      omega
  · exact h.mono (Nat.le_succ _)
theorem putTab_order (t : Tab) (n : Str) : (putTab t n [any1]).order = if isName n = true ∧ (aGet t.right n).isSome = false then t.order ++ [n] else t.order := by
  unfold putTab
  split
  · rfl
  · rfl
end Tm
set_option maxHeartbeats 4000000
namespace Tm
open PySem PySem.Spec PyProof.Rows L2 Pl
open Enc (den)
section
variable {X : Cx} {M : List Addr} {σ : L2.St} {H H' : Hp} {a b o : Expr} {pos p apos : Pos}
theorem vc_inLM {x : Str} {ys : List Str} {l : Addr} (ha : VE X M σ H a x) (hb : VE X M σ H b (V.ref l)) (hl : H l = some (.lst (ys.map V.str))) : VC X M σ H .In a b (decide (x ∈ ys)) := vc_rule (pc_op op_in_seq) fun H1 e1 d Q q => two ha hb e1 d fun v u H2 e2 _ dv du => by
  have q' := q H2 e2
  rw [← inV_str] at q'
  rw [show v = .str x from dv, show u = .ref l from du]
  exact ⟨l, _, rfl, .inl (.inl (.inl (Ex.tr e1 e2 l _ hl))), rfl, flat_strs ys, q'⟩
/-- made.names() -/
theorem ve_names {pl : Sem Bool} {C : Addr} {k : KA} {t : Tab} (c : KC X.K C) (F : ME X.prog X.w X.K X.mg X.base C "names" 1 (spNames C X.K)) (hr : Room 1 X.A) (ka : KindsAt C X.K M H k t) (ho : VE X M σ H o (V.ref k.p))
    (ht : eval (.Call (.Attribute o "names" apos) [] [] pos) X.env = (do
      let ov ← eval o X.env
      standAt apos.atName
      let (f, first) ← holding [ov] (getMethod ov "names" pl)
      callWith pos f first (backTo pos (starEach [] X.env)) (backToKw pos (keywordEach [] X.env))) := by rfl) : VE X M σ H (.Call (.Attribute o "names" apos) [] [] pos) t.order := fun H1 e1 d Q q =>
  we_methV0 takes0 c.cl F hr d (ho.mono e1) (e1 _ _ ka.hp) rfl (fun H2 e2 => ⟨M, k, t, rfl, d.ex e2, (ka.ex e1).ex e2, fun u H3 e3 du => q u H3 (Ex.tr e2 e3) du⟩) ht
end
def spLaw1 (K : PySem.W.Frag) : Sp := fun vs H Q _ => ∃ (v : V) (ns : List Int), vs = [v] ∧ den K H v ns ∧ ∀ H', Q (.bl true) H'
section
variable {P : Program} {w : World} {K : PySem.W.Frag} {mg : Str → Option Value} {base : Heap} {f C : Addr} {fd : FuncData}
abbrev nLaw : List Str := ["_law_script", "_law_bag_here", "_law_made", "_law_kept", "_law_turn", "_law_name", "_law_word", "_law_due"]
theorem sc_law : FnScope nLaw ["_law_script"] (defScope s_law) := ⟨rfl, rfl, rfl, by decide +kernel, rfl, by decide +kernel, by decide +kernel⟩
theorem ok_law {fI : Addr} {fdI : FuncData} (F : Fd K "law" "law" s_law f fd) (c : KC K C) (mk : Mk K C fI) (FI : FnOk P w K mg base (L2.CX P w) 1 fI fdI ["self"] (spInit C K)) (bI : Binds K fdI ["self"] []) (gK : mg "Kinds" = some (.ref C))
    (fBag : FN P w K mg base "_law_bag" 1 (spBag K)) (fText : FN P w K mg base "_law_some_text" 2 (spText K)) (fTold : FN P w K mg base "_law_put_told" 6 (spTold1 C K)) (fGood : FN P w K mg base "_law_good_name" 1 (spP1 K (fun z : Str => z.length ≤ 50000) isName)) (fSame : FN P w K mg base "_law_same" 2 (spSame K 1))
    (mNames : ME P w K mg base C "names" 1 (spNames C K)) (hrange : mg "range" = none) : FnOk P w K mg base (L2.CX P w) 7 f fd ["_law_script"] (spLaw1 K) := by
  refine F.ok sc_law (fun vs H Q E h => ?_) (fun cdv A outer s H vs Q E hr h => ⟨_, pbw, ?_⟩)
  · obtain ⟨v, ns, rfl, _⟩ := h
    rfl
  obtain ⟨v, ns, rfl, dv, k⟩ := h
  have r1 := hr.mono (show 1 ≤ 6 by decide)
  have r2 := hr.mono (show 2 ≤ 6 by decide)
  have un64 : A.units + 3 + 64 < cLine := hr.units
  -- bag
  refine wb_setW (i := 1) sc_law.nd (we_call takes0 fBag r1 (wa1 (M := []) Dom.nil (ve_var 0 rfl (by rw [hide_nil]; exact dv)) fun v1 H1 e1 dv1 => ⟨[], v1, ns, rfl, Dom.nil, dv1, fun b H2 hb e2 d2 bag2 => ?_⟩))
  -- made
  refine wb_setW (i := 2) sc_law.nd (we_of (pe_make0 mk FI r2 rfl gK bI .nil passL) fun x dx hx hdx hne => ?_)
  have e3 : Ex H2 (upd (upd H2 dx (.own x)) x (.ins C dx [])) := fun y o hy => by
    rw [upd_ne (ne_of_none hy hx), upd_ne (ne_of_none hy hdx)]
    exact hy
  have h3 : (upd (upd H2 dx (.own x)) x (.ins C dx [])) x = some (.ins C dx []) := upd_same
  have n3 : ∀ y, (upd (upd H2 dx (.own x)) x (.ins C dx [])) y = none → H2 y = none := fun y => Ex.back e3
  generalize upd (upd H2 dx (.own x)) x (.ins C dx []) = H3 at e3 h3 n3
  have d3 : Dom [x, b] H3 := (d2.ex e3).cons h3
  refine ⟨[x, b], x, dx, rfl, d3, List.mem_cons_self, h3, fun a H4 hp hall b4 d4 k4 => ⟨rfl, ?_⟩⟩
  subst hp
  have hb3 : ∃ o, H3 b = some o := d3 b (by simp)
  have hab : b ∉ a.all := fun z => by
    obtain ⟨o, ho⟩ := hb3
    rw [hall b z] at ho
    cases ho
  have hxb : b ≠ a.p := fun z => by
    obtain ⟨o, ho⟩ := bag2.at'
    rw [z, hx] at ho
    cases ho
  have bag4 : BagAt K (a.all ++ [a.p, b]) H4 b := by
    obtain ⟨bm, l, ns', i', j', r', g1, g2, g3⟩ := bag2
    refine ⟨by simp, l, ns', i', j', r', b4 b _ (by simpa using hxb) (e3 b _ g1), ?_, g3⟩
    refine Enc.mono (fun y o hy => ?_) g2
    obtain ⟨y1, y2⟩ := hide_some hy
    have yx : y ≠ a.p := ne_of_none y2 hx
    have y3 : H3 y = some o := e3 y o y2
    rw [hide_out fun z => ?_]
    · exact b4 y o (by simpa using yx) y3
    · rcases List.mem_append.mp z with z | z
      · rw [hall y z] at y3
        cases y3
      · rcases List.mem_cons.mp z with z | z
        · exact yx z
        · exact y1 z
  -- kept = ["any"]
  refine wb_setW (i := 3) sc_law.nd (we_of (pe_lst (pa_cons pe_str pa_nil)) ⟨sz (show 1 ≤ 100000 by decide), fun kq hkq => ?_⟩)
  have e5 : Ex H4 (upd H4 kq (.lst [V.str any1])) := Ex.new hkq
  have h5 : (upd H4 kq (.lst [V.str any1])) kq = some (.lst (tab0.order.map V.str)) := upd_same
  have k5 := k4.more hkq e5
  have bag5 := bag4.more hkq e5
  have d5 : Dom (kq :: (a.all ++ [a.p, b])) (upd H4 kq (.lst [V.str any1])) := (d4.ex e5).cons h5
  have hkb : kq ≠ b := fun z => by
    obtain ⟨o, ho⟩ := bag4.at'
    rw [← z, hkq] at ho
    cases ho
  have hka : kq ∉ a.p :: a.all := fun z => by
    obtain ⟨o, ho⟩ := k4.dom kq z
    rw [hkq] at ho
    cases ho
  have hpb : b ∉ a.p :: a.all := fun z => (List.mem_cons.mp z).elim hxb hab
  show WB _ _ _ [some v, some (.ref b), some (.ref a.p), some (.ref kq), none, none, none, none] (upd H4 kq (.lst [V.str any1]))
  generalize upd H4 kq (.lst [V.str any1]) = H5 at h5 k5 bag5 d5
  clear e5 k4 bag4 d4 b4 hall
  generalize hM : kq :: (a.all ++ [a.p, b]) = M at k5 bag5 d5
  have mk' : kq ∈ M := by rw [← hM]; exact List.mem_cons_self
  have mb : b ∈ M := bag5.1
  have inA : ∀ y ∈ a.all, y ∈ M := fun y hy => k5.inM y (List.mem_cons_of_mem _ hy)
  -- the turns
  refine wb_for owns_cx rfl d5 (vi_range (n := 9) hrange ve_int (by decide) (by decide)) (pg_name (i := 4) sc_law.nd rfl (.inl rfl))
    (fun G i σ' H' => ∃ t v4 v5 v6 v7, σ' = [some v, some (.ref b), some (.ref a.p), some (.ref kq), v4, v5, v6, v7] ∧ T1 t i ∧ KindsAt C K M H' a t ∧ BagAt K M H' b ∧ H' kq = some (.lst (t.order.map V.str)) ∧ Bt M G H' ∧ Dom M H')
    (fun G eG => ⟨tab0, none, none, none, none, rfl, T1.zero, k5.ex eG, bag5.ex eG, eG _ _ h5, Bt.ex Ex.rfl', d5.ex eG⟩) (fun G i σ' H' eG p => p.elim fun t q => q.elim fun _ q => q.elim fun _ q => q.elim fun _ q => q.elim fun _ q => ⟨q.2.2.2.2.2.1, q.2.2.2.2.2.2⟩) ?_ ?_
  · rintro G i y vy _ Ha H6 eG hy ⟨t, v4, v5, v6, v7, rfl, t1, ka, bag, hk, bt, da⟩ ea dy
    have hi : i < 9 := by
      have := (List.getElem?_eq_some_iff.mp hy).1
      rw [List.length_range] at this
      exact this
    have ka6 := ka.ex ea
    have d6 := da.ex ea
    -- name
    refine wb_setW (i := 5) sc_law.nd (we_call takes0 fText r2 (wa1 (M := M) d6 (ve_raw 1 rfl) fun w1 H7 e7 dw => ?_))
    rw [show w1 = .ref b from dw]
    refine ⟨M, b, rfl, d6.ex e7, (bag.ex ea).ex e7, fun n H8 hn bag8 b8 d8 => ?_⟩
    have k8 : KindsAt C K M H8 a t := (ka6.ex e7).keep b8 (fun y hy => by rw [List.mem_singleton.mp hy]; exact mb) (fun y hy => by rw [List.mem_singleton.mp hy]; exact hpb)
    have hk8 : H8 kq = some (.lst (t.order.map V.str)) := b8 kq _ (by simpa using hkb) (e7 _ _ (ea _ _ hk))
    have bt8 : Bt M G H8 := (bt.tr (Bt.ex (Ex.tr ea e7))).tr (b8.sub fun y hy => by rw [List.mem_singleton.mp hy]; exact mb)
    -- word
    refine wb_setW (i := 6) sc_law.nd (we_call takes0 fTold hr (wa4 (M := M) d8 (ve_raw 2 rfl) (ve_var 5 (y := n) rfl rfl) (ve_lst (xs := [any1]) (va_cons ve_str va_nil) (by decide)) (ve_lst (xs := ([] : List (Str × Str))) va_nil (by decide)) fun w1 w2 w3 w4 H9 e9 dw1 dw2 dw3 dw4 => ?_))
    rw [show w1 = .ref a.p from dw1]
    refine ⟨M, a, t, w2, w3, w4, n, [any1], rfl, d8.ex e9, k8.ex e9, dw2, dw3, dw4, t1.ok (by omega) (by omega), fun u H10 du k10 b10 d10 => ?_⟩
    have bag10 : BagAt K M H10 b := (bag8.ex e9).keep b10 inA hab
    have hk10 : H10 kq = some (.lst (t.order.map V.str)) := b10 kq _ (fun z => hka (List.mem_cons_of_mem _ z)) (e9 _ _ hk8)
    have bt10 : Bt M G H10 := (bt8.tr (Bt.ex e9)).tr (b10.sub inA)
    -- due
    refine wb_cut (fun σ' H' => ∃ v7, σ' = [some v, some (.ref b), some (.ref a.p), some (.ref kq), some vy, some (.str n), some u, some v7] ∧ den K (hide M H') v7 (putRes t n) ∧ den K (hide M H') u (putRes t n) ∧ KindsAt C K M H' a (putTab t n [any1]) ∧ BagAt K M H' b ∧ H' kq = some (.lst ((putTab t n [any1]).order.map V.str)) ∧ Bt M G H' ∧ Dom M H') ?_ ?_
    · refine ws_if d10 (vt_not (vt_val (ve_call1 fGood r1 (ve_var 5 (y := n) rfl rfl) (by show n.length ≤ 50000; omega)))) (fun hg H11 e11 => ?_) fun hg H11 e11 => ?_
      · have hN : isName n = false := by simpa using hg
        have hres : putRes t n = (("BadName" : Str), n) := if_pos hN
        have htab : (putTab t n [any1]).order = t.order := by rw [putTab_order, if_neg fun z => by rw [hN] at z; exact Bool.false_ne_true z.1]
        refine wb_set (i := 7) (M := M) (y := (("BadName" : Str), n)) sc_law.nd (d10.ex e11) (ve_pair (x := ("BadName" : Str)) (y := n) ve_str (ve_var 5 rfl rfl)) fun v7 H12 e12 dv7 => wb_nil ⟨v7, rfl, ?_, Enc.mono (Ex.hide (Ex.tr e11 e12)) du, k10.ex (Ex.tr e11 e12), bag10.ex (Ex.tr e11 e12), ?_, bt10.tr (Bt.ex (Ex.tr e11 e12)), d10.ex (Ex.tr e11 e12)⟩
        · rw [hres]
          exact dv7
        · rw [htab]
          exact Ex.tr e11 e12 _ _ hk10
      · have hN : isName n = true := by simpa using hg
        refine wb_one (ws_if (d10.ex e11) (vc_inLM (M := M) (ve_var 5 (y := n) rfl rfl) (ve_raw 3 rfl) (e11 _ _ hk10)).vt (fun hm H12 e12 => ?_) fun hm H12 e12 => ?_)
        · have hT : (aGet t.right n).isSome = true := by rw [t1.rt]; exact hm
          have hres : putRes t n = (("Taken" : Str), n) := by
            unfold putRes
            rw [if_neg (by rw [hN]; exact fun z => nomatch z), if_pos hT]
          have htab : (putTab t n [any1]).order = t.order := by rw [putTab_order, if_neg fun z => by rw [hT] at z; exact Bool.false_ne_true z.2.symm]
          have e02 := Ex.tr e11 e12
          refine wb_set (i := 7) (M := M) (y := (("Taken" : Str), n)) sc_law.nd (d10.ex e02) (ve_pair (x := ("Taken" : Str)) (y := n) ve_str (ve_var 5 rfl rfl)) fun v7 H13 e13 dv7 => wb_nil ⟨v7, rfl, ?_, Enc.mono (Ex.hide (Ex.tr e02 e13)) du, k10.ex (Ex.tr e02 e13), bag10.ex (Ex.tr e02 e13), ?_, bt10.tr (Bt.ex (Ex.tr e02 e13)), d10.ex (Ex.tr e02 e13)⟩
          · rw [hres]
            exact dv7
          · rw [htab]
            exact Ex.tr e02 e13 _ _ hk10
        · have hT : (aGet t.right n).isSome = false := by rw [t1.rt]; exact hm
          have hres : putRes t n = (("" : Str), ("" : Str)) := by
            unfold putRes
            rw [if_neg (by rw [hN]; exact fun z => nomatch z), if_neg (by rw [hT]; exact fun z => nomatch z)]
          have htab : (putTab t n [any1]).order = t.order ++ [n] := by rw [putTab_order, if_pos ⟨hN, hT⟩]
          have e02 := Ex.tr e11 e12
          refine wb_set (i := 7) (M := M) (y := (("" : Str), ("" : Str))) sc_law.nd (d10.ex e02) (ve_pair (x := ("" : Str)) (y := ("" : Str)) ve_str ve_str) fun v7 H13 e13 dv7 => ?_
          have e03 := Ex.tr e02 e13
          refine wb_exprW (we_append (M := M) (d10.ex e03) (ve_raw 3 rfl) (ve_var 5 (y := n) rfl rfl) (e03 _ _ hk10) (by rw [List.length_map]; have := t1.ord; omega) fun w5 H14 e14 dw5 => ?_)
          rw [show w5 = .str n from dw5]
          have e04 := Ex.tr e03 e14
          have eh : Ex (hide M H10) (hide M (upd H14 kq (.lst (t.order.map V.str ++ [V.str n])))) := by
            rw [hide_upd mk']
            exact Ex.hide e04
          have b14 : Bt [kq] H10 (upd H14 kq (.lst (t.order.map V.str ++ [V.str n]))) := (Bt.ex e04).up (by simp)
          refine wb_nil ⟨v7, rfl, ?_, Enc.mono eh du, k10.keep b14 (fun y hy => by rw [List.mem_singleton.mp hy]; exact mk') (fun y hy => by rw [List.mem_singleton.mp hy]; exact hka), (bag10.ex e04).put mk' hkb.symm, ?_, (bt10.tr (Bt.ex e04)).up mk', (d10.ex e04).upd⟩
          · rw [hres, hide_upd mk']
            exact Enc.mono (Ex.hide e14) dv7
          · rw [upd_same, htab, List.map_append]
            rfl
    rintro _ H11 ⟨v7, rfl, dv7, du7, k11, bag11, hk11, bt11, d11⟩
    -- if word != due or not _law_same(made.names(), kept): return False
    have ord : (putTab t n [any1]).order.length ≤ 50000 := by
      have := (t1.step n).ord
      omega
    refine wb_when d11 (y := false) (VW.vt (vw_or (VC.vt (VC.is (vc_neP (x := putRes t n) (y := putRes t n) un64 (ve_var 6 rfl du7) (ve_var 7 rfl dv7)) (by rw [eqv_self]; rfl : _ = false))) fun _ => vw_or1 (vt_not (vt_val (x := true) fun G1 eG1 dG1 Q' q' => ?_)))) (fun hy => by cases hy) fun _ H12 e12 => wb_nil ?_
    · refine we_call takes0 fSame r2 (wa2 dG1 ((ve_names c mNames r1 k11 (ve_raw 2 rfl)).mono eG1) (ve_raw 3 rfl) fun w1 w2 G2 e2 dw1 dw2 => ?_)
      rw [show w2 = .ref kq from dw2]
      refine ⟨[], w1, .ref kq, .lst ((putTab t n [any1]).order.map .str), rfl, Dom.nil, ?_, ?_, fun G3 e3 => q' _ _ (Ex.tr e2 e3) rfl⟩
      · rw [hide_nil]
        exact DD.strs (Enc.mono hide_le dw1) ord
      · rw [hide_nil]
        exact DD.strs ⟨kq, _, rfl, .inl (.inl (e2 _ _ (eG1 _ _ hk11))), All2.ofMap fun _ _ => rfl⟩ ord
    · exact ⟨putTab t n [any1], some vy, some (.str n), some u, some v7, rfl, t1.step n, k11.ex e12, bag11.ex e12, e12 _ _ hk11, bt11.tr (Bt.ex e12), d11.ex e12⟩
  · rintro G _ H6 eG ⟨t, v4, v5, v6, v7, rfl, t1, ka, bag, hk, bt, da⟩
    have t9 : T1 t 9 := t1
    refine wb_retW (we_of (pe_cmp (pc_op (op_eqPl un64))) ?_)
    refine we_call takes0 fTold hr (wa4 (M := M) da (ve_raw 2 rfl) ve_str (ve_lst (xs := [any1]) (va_cons ve_str va_nil) (by decide)) (ve_lst (xs := ([] : List (Str × Str))) va_nil (by decide)) fun w1 w2 w3 w4 H7 e7 dw1 dw2 dw3 dw4 => ?_)
    rw [show w1 = .ref a.p from dw1]
    refine ⟨M, a, t, w2, w3, w4, any1, [any1], rfl, da.ex e7, ka.ex e7, dw2, dw3, dw4, t9.ok (by decide) (by decide), fun u H8 du k8 b8 d8 => ?_⟩
    refine VE.go (M := M) (ve_pair (x := ("Taken" : Str)) (y := any1) ve_str ve_str) Ex.rfl' d8 fun u2 H9 e9 du2 => ?_
    have hres : putRes t any1 = (("Taken" : Str), any1) := by
      unfold putRes
      rw [if_neg (by decide), if_pos (by rw [t9.rt]; exact decide_eq_true t9.an)]
    rw [hres] at du
    refine ⟨_, _, dp_mono (Enc.mono (Ex.hide e9) du), dp_mono du2, EncP.pl _, EncP.pl _, by decide, ?_⟩
    rw [eqv_self]
    exact k H9
end
end Tm
set_option maxHeartbeats 4000000
namespace Tm
open PySem PySem.Spec PyProof.Rows L2
/-! ### what is read off the heap behind the top -/
inductive Fb where
  | f (a : He.Fa)
  | oex (x : Str)
  | clsf (x m : Str)
  | xf (x : Str)
  | ini (x : Str)
  | exa (x : Str) (ys : List Str) (b : Bool)
def oexB (K : PySem.W.Frag) (C : Addr) : Bool := (match K.lookup C with
  | some ⟨.type "type", _, .cls ⟨_, _, .ref C' :: bm, _, _, hd, _, _, _, _, del⟩, ⟨[_, _, _, _, some (.builtin n), _]⟩⟩ => decide (C' = C) && (hd && (!del && (decide (n = "ValueError.__new__") && PySem.HandSPX.refsVE bm)))
  | _ => false) && (decide (PySem.W.findIn K (.ref C) "__setattr__" = some (some (.builtin "object.__setattr__"))) && (decide (PySem.W.subIn K (.ref C) (.type "BaseException") = some true) && (decide (PySem.W.typeIn K (.ref C) = some (.type "type")) && PySem.W.keepIn K (.ref C))))
theorem oexB_ok {K : PySem.W.Frag} {C : Addr} (h : oexB K C = true) : OexC K C := by
  unfold oexB at h
  obtain ⟨h1, h⟩ := Bool.and_eq_true_iff.mp h
  obtain ⟨h2, h⟩ := Bool.and_eq_true_iff.mp h
  obtain ⟨h3, h⟩ := Bool.and_eq_true_iff.mp h
  obtain ⟨h4, h5⟩ := Bool.and_eq_true_iff.mp h
  refine ⟨?_, of_decide_eq_true h2, of_decide_eq_true h3, of_decide_eq_true h4, h5⟩
  split at h1
  · rename_i dd nm bs C' bm N q hd sn sub ab col del k0 k1 k2 k3 n k5 e
    obtain ⟨g1, h1⟩ := Bool.and_eq_true_iff.mp h1
    obtain ⟨g2, h1⟩ := Bool.and_eq_true_iff.mp h1
    obtain ⟨g3, h1⟩ := Bool.and_eq_true_iff.mp h1
    obtain ⟨g4, g5⟩ := Bool.and_eq_true_iff.mp h1
    have z1 := of_decide_eq_true g1
    have z4 := of_decide_eq_true g4
    have z3 : del = false := by simpa using g3
    subst z1 z4 z3
    rw [g2] at e
    exact ⟨nm, q, N, bs, bm, sn, sub, ab, col, dd, k0, k1, k2, k3, k5, e, g5⟩
  · cases h1
def clsfB (K : PySem.W.Frag) (C : Addr) (m : Str) : Bool := decide (PySem.W.specialIn K (.ref C) "__getattribute__" = some (some (.builtin "type.__getattribute__"))) && (PySem.W.readsIn K C (.type "type") && ((match PySem.W.findCls K (.ref C) (.type "type") m with
  | some (.val v) => decide (v = .ref (He.ma K C m))
  | _ => false) && PySem.W.keepIn K (.ref (He.ma K C m))))
theorem clsfB_ok {K : PySem.W.Frag} {C : Addr} {m : Str} (h : clsfB K C m = true) : ClsF K C m (He.ma K C m) := by
  unfold clsfB at h
  obtain ⟨h1, h⟩ := Bool.and_eq_true_iff.mp h
  obtain ⟨h2, h⟩ := Bool.and_eq_true_iff.mp h
  obtain ⟨h3, h4⟩ := Bool.and_eq_true_iff.mp h
  refine ⟨of_decide_eq_true h1, h2, ?_, h4⟩
  split at h3
  · rename_i v e
    rw [e, of_decide_eq_true h3]
  · cases h3
def iniB (K : PySem.W.Frag) (C : Addr) : Bool := decide (PySem.W.findIn K (.ref C) "__init__" = some (some (.ref (He.ma K C "__init__")))) && decide (PySem.W.typeIn K (.ref (He.ma K C "__init__")) = some (.type "function"))
def Fb.ok (K : PySem.W.Frag) : Fb → Bool
  | .f a => a.ok K
  | .oex x => oexB K (He.ga K x)
  | .clsf x m => clsfB K (He.ga K x) m
  | .xf x => xfB K (He.ga K x)
  | .ini x => iniB K (He.ga K x)
  | .exa x ys b => decide (PySem.W.exmAny K (.ref (He.ga K x)) (ys.map fun y => .ref (He.ga K y)) = some b)
def obsB (fb : List Fb) (fn : List He.DefD) (K : PySem.W.Frag) : He.AlD := ((fb.all fun f => f.ok K) && fn.all fun d => d.ok K, fn.map fun d => He.fnW K d.at_)
def SaysB (fb : List Fb) (fn : List He.DefD) (K : PySem.W.Frag) : Prop := obsB fb fn K = He.valD fn
def obsBG (n : Nat) (fb : List Fb) (fn : List He.DefD) (g : Addr → Option Obj) : He.AlD := obsB fb fn (He.frG g (PySem.cStatics :: He.asD g n))
def hookB (n : Nat) (fb : List Fb) (fn : List He.DefD) : PySem.W.Hook where
  α := He.AlD
  obs := fun s => obsBG n fb fn s.heap.get?
  val := fun _ => He.valD fn
  says := fun _ h => ∃ K : PySem.W.Frag, K.In h ∧ SaysB fb fn K
  of := fun _ _ e => ⟨_, He.frG_in, e⟩
  keeps := fun _ _ _ ⟨K, hK, c⟩ k => ⟨K, PySem.W.Frag.In.keeps hK k, c⟩
theorem obsBG_eq {n : Nat} {fb : List Fb} {fn : List He.DefD} {g : Addr → Option Obj} {s : Shared} (h : ∀ a, g a = s.heap.get? a) : obsBG n fb fn g = (hookB n fb fn).obs s := by
  have e : g = s.heap.get? := funext h
  rw [e] <;> rfl
section
variable {fb : List Fb} {fn : List He.DefD} {K : PySem.W.Frag}
theorem SaysB.fact (c : SaysB fb fn K) (f : Fb) (h : f ∈ fb) : f.ok K = true := by
  have c1 := (He.ba (show ((fb.all fun f => f.ok K) && fn.all fun d => d.ok K) = true from congrArg (fun z : He.AlD => z.1) c)).1
  exact List.all_eq_true.mp c1 f h
theorem SaysB.def_ (c : SaysB fb fn K) (i : Nat) {d : He.DefD} (h : fn[i]? = some d := by rfl) : ∃ fd, FunD K d.name d.qual d.params d.body d.scope (d.dvs K) (d.kws K) (He.fAd K d.at_) fd := by
  have c2 := (He.ba (show ((fb.all fun f => f.ok K) && fn.all fun d => d.ok K) = true from congrArg (fun z : He.AlD => z.1) c)).2
  have e : fn.map (fun d => He.fnW K d.at_) = fn.map He.DefD.val := congrArg (fun z : He.AlD => z.2) c
  have e2 : (fn.map fun d => He.fnW K d.at_)[i]? = (fn.map He.DefD.val)[i]? := by rw [e]
  rw [List.getElem?_map, List.getElem?_map, h] at e2
  exact He.DefD.funD (Option.some.inj e2) (List.all_eq_true.mp c2 d (List.mem_of_getElem? h))
end
/-- a keyword-only default of the def at f, if it is an object -/
def kwdAt (f : Str × Option Str) (x : Str) (K : PySem.W.Frag) : Addr := match K.lookup (He.fAd K f) with
  | some ⟨_, _, .func fd, _⟩ => (match fd.kwdefaults with
    | .ref D => (match PySem.W.nsIn K D x with
      | some (some (.ref a)) => a
      | _ => 0)
    | _ => 0)
  | _ => 0
end Tm
set_option maxHeartbeats 0
namespace Hd
open PySem PySem.Spec PyProof.Rows L2 Pl Tm
def d_TraitError_init : He.DefD := ⟨("TraitError", some "__init__"), "__init__", "TraitError.__init__", defArgs s_TraitError_init, defBody s_TraitError_init, defScope s_TraitError_init, [], []⟩
def d_Taken_init : He.DefD := ⟨("Taken", some "__init__"), "__init__", "Taken.__init__", defArgs s_Taken_init, defBody s_Taken_init, defScope s_Taken_init, [], []⟩
def d_Forked_init : He.DefD := ⟨("Forked", some "__init__"), "__init__", "Forked.__init__", defArgs s_Forked_init, defBody s_Forked_init, defScope s_Forked_init, [], []⟩
def d_BadName_init : He.DefD := ⟨("BadName", some "__init__"), "__init__", "BadName.__init__", defArgs s_BadName_init, defBody s_BadName_init, defScope s_BadName_init, [], []⟩
def d_is_name : He.DefD := ⟨("is_name", none), "is_name", "is_name", defArgs s_is_name, defBody s_is_name, defScope s_is_name, [], []⟩
def d_Kinds_init : He.DefD := ⟨("Kinds", some "__init__"), "__init__", "Kinds.__init__", defArgs s_Kinds_init, defBody s_Kinds_init, defScope s_Kinds_init, [], []⟩
def d_Kinds_need : He.DefD := ⟨("Kinds", some "need"), "need", "Kinds.need", defArgs s_Kinds_need, defBody s_Kinds_need, defScope s_Kinds_need, [], []⟩
def d_Kinds_names : He.DefD := ⟨("Kinds", some "names"), "names", "Kinds.names", defArgs s_Kinds_names, defBody s_Kinds_names, defScope s_Kinds_names, [], []⟩
def d_Kinds_inherited : He.DefD := ⟨("Kinds", some "inherited"), "inherited", "Kinds.inherited", defArgs s_Kinds_inherited, defBody s_Kinds_inherited, defScope s_Kinds_inherited, [], []⟩
def d_Kinds_look_at_fork : He.DefD := ⟨("Kinds", some "look_at_fork"), "look_at_fork", "Kinds.look_at_fork", defArgs s_Kinds_look_at_fork, defBody s_Kinds_look_at_fork, defScope s_Kinds_look_at_fork, [], []⟩
def d_Kinds_told_rooms : He.DefD := ⟨("Kinds", some "told_rooms"), "told_rooms", "Kinds.told_rooms", defArgs s_Kinds_told_rooms, defBody s_Kinds_told_rooms, defScope s_Kinds_told_rooms, [], []⟩
def d_Kinds_all_rooms : He.DefD := ⟨("Kinds", some "all_rooms"), "all_rooms", "Kinds.all_rooms", defArgs s_Kinds_all_rooms, defBody s_Kinds_all_rooms, defScope s_Kinds_all_rooms, [], []⟩
def d_Kinds_put : He.DefD := ⟨("Kinds", some "put"), "put", "Kinds.put", defArgs s_Kinds_put, defBody s_Kinds_put, defScope s_Kinds_put, [.adr (He.dflAt ("Kinds", some "put") 0)], [("rooms", .adr (kwdAt ("Kinds", some "put") "rooms"))]⟩
def d_Kinds_enter : He.DefD := ⟨("Kinds", some "enter"), "enter", "Kinds.enter", defArgs s_Kinds_enter, defBody s_Kinds_enter, defScope s_Kinds_enter, [], []⟩
def d_Kinds_goes_round : He.DefD := ⟨("Kinds", some "goes_round"), "goes_round", "Kinds.goes_round", defArgs s_Kinds_goes_round, defBody s_Kinds_goes_round, defScope s_Kinds_goes_round, [], []⟩
def d__law_bag : He.DefD := ⟨("_law_bag", none), "_law_bag", "_law_bag", defArgs s__law_bag, defBody s__law_bag, defScope s__law_bag, [], []⟩
def d__law_pull : He.DefD := ⟨("_law_pull", none), "_law_pull", "_law_pull", defArgs s__law_pull, defBody s__law_pull, defScope s__law_pull, [], []⟩
def d__law_same : He.DefD := ⟨("_law_same", none), "_law_same", "_law_same", defArgs s__law_same, defBody s__law_same, defScope s__law_same, [], []⟩
def d__law_good_name : He.DefD := ⟨("_law_good_name", none), "_law_good_name", "_law_good_name", defArgs s__law_good_name, defBody s__law_good_name, defScope s__law_good_name, [], []⟩
def d__law_put_told : He.DefD := ⟨("_law_put_told", none), "_law_put_told", "_law_put_told", defArgs s__law_put_told, defBody s__law_put_told, defScope s__law_put_told, [], []⟩
def d__law_some_text : He.DefD := ⟨("_law_some_text", none), "_law_some_text", "_law_some_text", defArgs s__law_some_text, defBody s__law_some_text, defScope s__law_some_text, [], []⟩
def d_law : He.DefD := ⟨("law", none), "law", "law", defArgs s_law, defBody s_law, defScope s_law, [], []⟩
def fn : List He.DefD := [d_TraitError_init, d_Taken_init, d_Forked_init, d_BadName_init, d_is_name, d_Kinds_init, d_Kinds_need, d_Kinds_names, d_Kinds_inherited, d_Kinds_look_at_fork, d_Kinds_told_rooms, d_Kinds_all_rooms, d_Kinds_put, d_Kinds_enter, d_Kinds_goes_round, d__law_bag, d__law_pull, d__law_same, d__law_good_name, d__law_put_told, d__law_some_text, d_law]
abbrev fb : List Fb := [.f (.glo "law"), .f (.glo "Kinds"), .f (.glo "TraitError"), .f (.glo "Taken"), .f (.glo "BadName"), .f (.glo "Forked"), .f (.glo "Twice"), .f (.glo "Strange"), .f (.glo "Wider"), .f (.glo "NoFit"), .f (.glo "Ring"), .f (.glo "NoKind"), .f (.glo "Full"), .f (.glo "BadParts"), .f (.glo "is_name"), .f (.glo "_law_bag"), .f (.glo "_law_pull"), .f (.glo "_law_same"), .f (.glo "_law_good_name"), .f (.glo "_law_put_told"), .f (.glo "_law_some_text"), .f (.free "len"), .f (.free "all"), .f (.free "sorted"), .f (.free "set"), .f (.free "list"), .f (.free "dict"), .f (.free "range"), .f (.free "isinstance"), .f (.free "bool"), .f (.free "int"), .f (.free "str"), .f (.free "tuple"), .f (.free "ValueError"), .f (.str "LETTERS" "abcdefghijklmnopqrstuvwxyz"), .f (.int "MOST_NAME" 8), .f (.str "ANY" "any"), .f (.int "MOST_KINDS" 24), .f (.cls "Kinds"), .f (.noat "Kinds" "order"), .f (.noat "Kinds" "right"), .f (.noat "Kinds" "spoken"), .f (.noat "Kinds" "lets"), .f (.noat "Kinds" "uppers"), .f (.noat "Kinds" "homes"), .f (.noat "Kinds" "lowest"), .f (.noat "Kinds" "musts"), .f (.meth "Kinds" "need"), .f (.meth "Kinds" "names"), .f (.meth "Kinds" "look_at_fork"), .f (.meth "Kinds" "inherited"), .f (.meth "Kinds" "told_rooms"), .f (.meth "Kinds" "all_rooms"), .f (.meth "Kinds" "enter"), .f (.meth "Kinds" "goes_round"), .f (.meth "Kinds" "put"), .f (.mkr "Kinds"), .oex "Taken", .oex "BadName", .oex "Forked", .ini "Taken", .ini "BadName", .ini "Forked", .f (.noat "Taken" "called"), .f (.noat "Taken" "name"), .f (.noat "BadName" "called"), .f (.noat "BadName" "name"), .f (.noat "Forked" "called"), .f (.noat "Forked" "one"), .f (.noat "Forked" "other"), .clsf "TraitError" "__init__", .xf "Taken", .xf "BadName", .exa "BadName" ["Forked"] false, .exa "BadName" ["Twice", "Strange", "Wider", "NoFit"] false, .exa "BadName" ["BadName", "Taken", "Ring", "NoKind"] true, .exa "Taken" ["Forked"] false, .exa "Taken" ["Twice", "Strange", "Wider", "NoFit"] false, .exa "Taken" ["BadName", "Taken", "Ring", "NoKind"] true]
def loose1 : List Str := ["_wall", "TraitError", "Missing", "Taken", "Full", "Forked", "Twice", "Strange", "Wider", "NoFit", "Ring", "Unfit", "BadName", "BadParts", "NoKind", "NoRoom", "LETTERS", "MOST_NAME", "is_name", "all_fit", "fits", "ANY", "MOST_KINDS", "Kinds", "_law_bag", "_law_pull", "_law_same", "_law_good_name", "_law_put_told", "_law_some_text"]
abbrev R : PySem.W.OpenRow := PySem.W.OpenLaw.row PySem.Challenge.rw_traitmere_k01_names_of_kinds
abbrev hk : PySem.W.Hook := hookB 5 fb fn
def ob (s : PySem.W.SharedT) : He.AlD := obsBG 5 fb fn (HandSHeadRun.getT s)
theorem ob_eq (s : PySem.W.SharedT) : ob s = hk.obs s.abs := obsBG_eq (HandSHeadRun.getT_eq s)
theorem run (w : World) : HandSHeadRun.RunEq R (PySem.W.view R.prog [35]) hk ob 20000 loose1 w := by
  intro os
  kernel_rfl
end Hd
set_option maxHeartbeats 0
namespace Tm
open PySem PySem.Spec PyProof.Rows L2
/-- what lets nothing out -/
theorem fn_calm {P : Program} {w : World} {K : PySem.W.Frag} {mg : Str → Option Value} {base : Heap} {k : Nat} {f : Addr} {fd : FuncData} {ps : List Str} {sp : Sp} (F : FnOk P w K mg base (L2.CX P w) k f fd ps sp) (h : ∀ vs H Q E, sp vs H Q E → sp vs H Q fun _ _ _ => False) : FnOk P w K mg base CX0 k f fd ps sp :=
  ⟨F.len, fun A outer s H args us vs Q E hr he hb hv hs => codeAny_mono (F.run A outer s H args us vs Q (fun _ _ _ => False) hr he hb hv (h _ _ _ _ hs)) fun r s' q => by
    cases r with
    | error e =>
      obtain ⟨_, _, _, _, _, _, _, _, _, _, _, _, z⟩ := q
      exact z.elim
    | ok fl => cases fl <;> exact q⟩
end Tm
namespace Hd
open PySem PySem.Spec PyProof.Rows L2 Pl Tm
section
variable {P : Program} {w : World} {K : PySem.W.Frag} {h : Heap} {mg : Str → Option Value} {f : Addr}
theorem facts (X : K.In h) (G : h.Ns mainGlobals mg) (hfa : mg ("law" : Str) = some (.ref f)) (c : SaysB fb fn K) :
    ∃ fd : FuncData, (∀ (s : Shared) (v : Value), BindsTo s fd ⟨[v], []⟩ [("_law_script", v)]) ∧ ∀ base : Heap, K.In base → base.Ns mainGlobals mg → FnOk P w K mg base CX0 7 f fd ["_law_script"] (spLaw1 K) := by
  have glo : ∀ x, Fb.f (.glo x) ∈ fb → mg x = some (.ref (He.ga K x)) := fun x hx => He.glo_ok X G (c.fact _ hx)
  have free : ∀ x, Fb.f (.free x) ∈ fb → mg x = none := fun x hx => He.free_ok X G (c.fact _ hx)
  have noat : ∀ x f, Fb.f (.noat x f) ∈ fb → NoAttr K (He.ga K x) f := fun x f hx => He.noat_ok (c.fact _ hx)
  have meth : ∀ x m, Fb.f (.meth x m) ∈ fb → Meth K (He.ga K x) m (He.ma K (He.ga K x) m) := fun x m hx => He.meth_ok (c.fact _ hx)
  have oex : ∀ x, Fb.oex x ∈ fb → OexC K (He.ga K x) := fun x hx => oexB_ok (c.fact _ hx)
  have ini : ∀ x, Fb.ini x ∈ fb → PySem.W.findIn K (.ref (He.ga K x)) "__init__" = some (some (.ref (He.ma K (He.ga K x) "__init__"))) ∧ PySem.W.typeIn K (.ref (He.ma K (He.ga K x) "__init__")) = some (.type "function") := fun x hx => by
    obtain ⟨h1, h2⟩ := Bool.and_eq_true_iff.mp (show iniB K (He.ga K x) = true from c.fact _ hx)
    exact ⟨of_decide_eq_true h1, of_decide_eq_true h2⟩
  have exa : ∀ x ys b, Fb.exa x ys b ∈ fb → PySem.W.exmAny K (.ref (He.ga K x)) (ys.map fun y => .ref (He.ga K y)) = some b := fun x ys b hx => of_decide_eq_true (c.fact _ hx)
  obtain ⟨fdTE, FTE⟩ := c.def_ 0 (d := d_TraitError_init) rfl
  obtain ⟨fdTk, FTk⟩ := c.def_ 1 (d := d_Taken_init) rfl
  obtain ⟨fdFk, FFk⟩ := c.def_ 2 (d := d_Forked_init) rfl
  obtain ⟨fdBN, FBN⟩ := c.def_ 3 (d := d_BadName_init) rfl
  obtain ⟨fdIN, FIN⟩ := c.def_ 4 (d := d_is_name) rfl
  obtain ⟨fdKI, FKI⟩ := c.def_ 5 (d := d_Kinds_init) rfl
  obtain ⟨fdNe, FNe⟩ := c.def_ 6 (d := d_Kinds_need) rfl
  obtain ⟨fdNa, FNa⟩ := c.def_ 7 (d := d_Kinds_names) rfl
  obtain ⟨fdIh, FIh⟩ := c.def_ 8 (d := d_Kinds_inherited) rfl
  obtain ⟨fdLf, FLf⟩ := c.def_ 9 (d := d_Kinds_look_at_fork) rfl
  obtain ⟨fdTr, FTr⟩ := c.def_ 10 (d := d_Kinds_told_rooms) rfl
  obtain ⟨fdAr, FAr⟩ := c.def_ 11 (d := d_Kinds_all_rooms) rfl
  obtain ⟨fdPu, FPu⟩ := c.def_ 12 (d := d_Kinds_put) rfl
  obtain ⟨fdEn, FEn⟩ := c.def_ 13 (d := d_Kinds_enter) rfl
  obtain ⟨fdGr, FGr⟩ := c.def_ 14 (d := d_Kinds_goes_round) rfl
  obtain ⟨fdBg, FBg⟩ := c.def_ 15 (d := d__law_bag) rfl
  obtain ⟨fdPl, FPl⟩ := c.def_ 16 (d := d__law_pull) rfl
  obtain ⟨fdSm, FSm⟩ := c.def_ 17 (d := d__law_same) rfl
  obtain ⟨fdGd, FGd⟩ := c.def_ 18 (d := d__law_good_name) rfl
  obtain ⟨fdTo, FTo⟩ := c.def_ 19 (d := d__law_put_told) rfl
  obtain ⟨fdTx, FTx⟩ := c.def_ 20 (d := d__law_some_text) rfl
  obtain ⟨fd, F⟩ := c.def_ 21 (d := d_law) rfl
  have e := hfa.symm.trans (glo "law" (by repeat (first | (with_reducible exact List.mem_cons_self) | refine List.mem_cons_of_mem _ ?_)))
  cases e
  have b := FunD.bindsA (ps := ["_law_script"]) F fun _ _ _ _ _ _ us hl => match us, hl with | [_], _ => rfl
  refine ⟨fd, fun s v => b s [v] rfl, fun base hKb hNb => fn_calm ?_ fun vs H Q E hq => hq⟩
  -- the class
  have kc : KC K (He.ga K "Kinds") := ⟨He.cls_ok (c.fact (.f (.cls "Kinds")) (by repeat (first | (with_reducible exact List.mem_cons_self) | refine List.mem_cons_of_mem _ ?_))), noat _ _ (by repeat (first | (with_reducible exact List.mem_cons_self) | refine List.mem_cons_of_mem _ ?_)), noat _ _ (by repeat (first | (with_reducible exact List.mem_cons_self) | refine List.mem_cons_of_mem _ ?_)), noat _ _ (by repeat (first | (with_reducible exact List.mem_cons_self) | refine List.mem_cons_of_mem _ ?_)), noat _ _ (by repeat (first | (with_reducible exact List.mem_cons_self) | refine List.mem_cons_of_mem _ ?_)), noat _ _ (by repeat (first | (with_reducible exact List.mem_cons_self) | refine List.mem_cons_of_mem _ ?_)), noat _ _ (by repeat (first | (with_reducible exact List.mem_cons_self) | refine List.mem_cons_of_mem _ ?_)), noat _ _ (by repeat (first | (with_reducible exact List.mem_cons_self) | refine List.mem_cons_of_mem _ ?_)), noat _ _ (by repeat (first | (with_reducible exact List.mem_cons_self) | refine List.mem_cons_of_mem _ ?_))⟩
  have hTE : FnOk P w K mg base (L2.CX P w) 1 _ fdTE ["self", "called"] (spBase K) := ok_TE FTE (free "ValueError" (by repeat (first | (with_reducible exact List.mem_cons_self) | refine List.mem_cons_of_mem _ ?_)))
  have bTE : Binds K fdTE ["self", "called"] [] := FTE.bindsN fun _ _ _ _ _ _ us hl => match us, hl with | [_, _], _ => rfl
  have tTE : ClsF K (He.ga K "TraitError") "__init__" (He.ma K (He.ga K "TraitError") "__init__") := clsfB_ok (c.fact (.clsf "TraitError" "__init__") (by repeat (first | (with_reducible exact List.mem_cons_self) | refine List.mem_cons_of_mem _ ?_)))
  have gTE := glo "TraitError" (by repeat (first | (with_reducible exact List.mem_cons_self) | refine List.mem_cons_of_mem _ ?_))
  have eT : Er P w K mg base "Taken" ["name"] 2 (He.ga K "Taken") := ⟨oex _ (by repeat (first | (with_reducible exact List.mem_cons_self) | refine List.mem_cons_of_mem _ ?_)), glo _ (by repeat (first | (with_reducible exact List.mem_cons_self) | refine List.mem_cons_of_mem _ ?_)), _, fdTk, ["self", "name"], ok_Taken FTk (oex _ (by repeat (first | (with_reducible exact List.mem_cons_self) | refine List.mem_cons_of_mem _ ?_))) (noat _ _ (by repeat (first | (with_reducible exact List.mem_cons_self) | refine List.mem_cons_of_mem _ ?_))) (noat _ _ (by repeat (first | (with_reducible exact List.mem_cons_self) | refine List.mem_cons_of_mem _ ?_))) tTE hTE bTE gTE, (ini "Taken" (by repeat (first | (with_reducible exact List.mem_cons_self) | refine List.mem_cons_of_mem _ ?_))).1, (ini "Taken" (by repeat (first | (with_reducible exact List.mem_cons_self) | refine List.mem_cons_of_mem _ ?_))).2, FTk.bindsN fun _ _ _ _ _ _ us hl => match us, hl with | [_, _], _ => rfl⟩
  have eB : Er P w K mg base "BadName" ["name"] 2 (He.ga K "BadName") := ⟨oex _ (by repeat (first | (with_reducible exact List.mem_cons_self) | refine List.mem_cons_of_mem _ ?_)), glo _ (by repeat (first | (with_reducible exact List.mem_cons_self) | refine List.mem_cons_of_mem _ ?_)), _, fdBN, ["self", "name"], ok_BadName FBN (oex _ (by repeat (first | (with_reducible exact List.mem_cons_self) | refine List.mem_cons_of_mem _ ?_))) (noat _ _ (by repeat (first | (with_reducible exact List.mem_cons_self) | refine List.mem_cons_of_mem _ ?_))) (noat _ _ (by repeat (first | (with_reducible exact List.mem_cons_self) | refine List.mem_cons_of_mem _ ?_))) tTE hTE bTE gTE, (ini "BadName" (by repeat (first | (with_reducible exact List.mem_cons_self) | refine List.mem_cons_of_mem _ ?_))).1, (ini "BadName" (by repeat (first | (with_reducible exact List.mem_cons_self) | refine List.mem_cons_of_mem _ ?_))).2, FBN.bindsN fun _ _ _ _ _ _ us hl => match us, hl with | [_, _], _ => rfl⟩
  have eF : Er P w K mg base "Forked" ["one", "other"] 2 (He.ga K "Forked") := ⟨oex _ (by repeat (first | (with_reducible exact List.mem_cons_self) | refine List.mem_cons_of_mem _ ?_)), glo _ (by repeat (first | (with_reducible exact List.mem_cons_self) | refine List.mem_cons_of_mem _ ?_)), _, fdFk, ["self", "one", "other"], ok_Forked FFk (oex _ (by repeat (first | (with_reducible exact List.mem_cons_self) | refine List.mem_cons_of_mem _ ?_))) (noat _ _ (by repeat (first | (with_reducible exact List.mem_cons_self) | refine List.mem_cons_of_mem _ ?_))) (noat _ _ (by repeat (first | (with_reducible exact List.mem_cons_self) | refine List.mem_cons_of_mem _ ?_))) (noat _ _ (by repeat (first | (with_reducible exact List.mem_cons_self) | refine List.mem_cons_of_mem _ ?_))) tTE hTE bTE gTE, (ini "Forked" (by repeat (first | (with_reducible exact List.mem_cons_self) | refine List.mem_cons_of_mem _ ?_))).1, (ini "Forked" (by repeat (first | (with_reducible exact List.mem_cons_self) | refine List.mem_cons_of_mem _ ?_))).2, FFk.bindsN fun _ _ _ _ _ _ us hl => match us, hl with | [_, _, _], _ => rfl⟩
  obtain ⟨tL, hL⟩ := He.str_ok X G (c.fact (.f (.str "LETTERS" "abcdefghijklmnopqrstuvwxyz")) (by repeat (first | (with_reducible exact List.mem_cons_self) | refine List.mem_cons_of_mem _ ?_)))
  obtain ⟨tMN, hMN⟩ := He.int_ok X G (c.fact (.f (.int "MOST_NAME" 8)) (by repeat (first | (with_reducible exact List.mem_cons_self) | refine List.mem_cons_of_mem _ ?_)))
  obtain ⟨tA, hA⟩ := He.str_ok X G (c.fact (.f (.str "ANY" "any")) (by repeat (first | (with_reducible exact List.mem_cons_self) | refine List.mem_cons_of_mem _ ?_)))
  obtain ⟨tMK, hMK⟩ := He.int_ok X G (c.fact (.f (.int "MOST_KINDS" 24)) (by repeat (first | (with_reducible exact List.mem_cons_self) | refine List.mem_cons_of_mem _ ?_)))
  have hlen := free "len" (by repeat (first | (with_reducible exact List.mem_cons_self) | refine List.mem_cons_of_mem _ ?_))
  have hall := free "all" (by repeat (first | (with_reducible exact List.mem_cons_self) | refine List.mem_cons_of_mem _ ?_))
  have hsorted := free "sorted" (by repeat (first | (with_reducible exact List.mem_cons_self) | refine List.mem_cons_of_mem _ ?_))
  have hset := free "set" (by repeat (first | (with_reducible exact List.mem_cons_self) | refine List.mem_cons_of_mem _ ?_))
  have hlist := free "list" (by repeat (first | (with_reducible exact List.mem_cons_self) | refine List.mem_cons_of_mem _ ?_))
  have hdict := free "dict" (by repeat (first | (with_reducible exact List.mem_cons_self) | refine List.mem_cons_of_mem _ ?_))
  have hrange := free "range" (by repeat (first | (with_reducible exact List.mem_cons_self) | refine List.mem_cons_of_mem _ ?_))
  have fName : FN P w K mg base "is_name" 1 (spP1 K (fun z : Str => z.length ≤ 50000) isName) := ⟨_, fdIN, ["text"], ok_is_name FIN hL hMN hlen hall, glo _ (by repeat (first | (with_reducible exact List.mem_cons_self) | refine List.mem_cons_of_mem _ ?_)), FIN.kp, FIN.bindsN fun _ _ _ _ _ _ us hl => match us, hl with | [_], _ => rfl⟩
  have mNeed : ME P w K mg base (He.ga K "Kinds") "need" 1 (spNeed1 (He.ga K "Kinds") K) := ⟨_, fdNe, ["self", "name"], ok_need1 FNe kc, meth _ _ (by repeat (first | (with_reducible exact List.mem_cons_self) | refine List.mem_cons_of_mem _ ?_)), FNe.bindsN fun _ _ _ _ _ _ us hl => match us, hl with | [_, _], _ => rfl⟩
  have mNames : ME P w K mg base (He.ga K "Kinds") "names" 1 (spNames (He.ga K "Kinds") K) := ⟨_, fdNa, ["self"], ok_names FNa kc hlist, meth _ _ (by repeat (first | (with_reducible exact List.mem_cons_self) | refine List.mem_cons_of_mem _ ?_)), FNa.bindsN fun _ _ _ _ _ _ us hl => match us, hl with | [_], _ => rfl⟩
  have mFork : ME P w K mg base (He.ga K "Kinds") "look_at_fork" 4 (spFork (He.ga K "Kinds") (He.ga K "Forked") K) := ⟨_, fdLf, ["self", "above"], ok_fork FLf kc hsorted eF, meth _ _ (by repeat (first | (with_reducible exact List.mem_cons_self) | refine List.mem_cons_of_mem _ ?_)), FLf.bindsN fun _ _ _ _ _ _ us hl => match us, hl with | [_, _], _ => rfl⟩
  have mInh : ME P w K mg base (He.ga K "Kinds") "inherited" 1 (spInh0 (He.ga K "Kinds") K) := ⟨_, fdIh, ["self", "ups"], ok_inh0 FIh kc hsorted, meth _ _ (by repeat (first | (with_reducible exact List.mem_cons_self) | refine List.mem_cons_of_mem _ ?_)), FIh.bindsN fun _ _ _ _ _ _ us hl => match us, hl with | [_, _], _ => rfl⟩
  have mTold : ME P w K mg base (He.ga K "Kinds") "told_rooms" 1 (spTold0 (He.ga K "Kinds") K) := ⟨_, fdTr, ["self", "rooms", "above", "inherited"], ok_told0 FTr kc, meth _ _ (by repeat (first | (with_reducible exact List.mem_cons_self) | refine List.mem_cons_of_mem _ ?_)), FTr.bindsN fun _ _ _ _ _ _ us hl => match us, hl with | [_, _, _, _], _ => rfl⟩
  have mAll : ME P w K mg base (He.ga K "Kinds") "all_rooms" 1 (spAll0 (He.ga K "Kinds") K) := ⟨_, fdAr, ["self", "told", "inherited"], ok_all0 FAr kc hsorted hdict, meth _ _ (by repeat (first | (with_reducible exact List.mem_cons_self) | refine List.mem_cons_of_mem _ ?_)), FAr.bindsN fun _ _ _ _ _ _ us hl => match us, hl with | [_, _, _], _ => rfl⟩
  have mEnter : ME P w K mg base (He.ga K "Kinds") "enter" 1 (spEnter (He.ga K "Kinds") K) := ⟨_, fdEn, ["self", "name", "ups", "told", "lets"], ok_enter FEn kc, meth _ _ (by repeat (first | (with_reducible exact List.mem_cons_self) | refine List.mem_cons_of_mem _ ?_)), FEn.bindsN fun _ _ _ _ _ _ us hl => match us, hl with | [_, _, _, _, _], _ => rfl⟩
  have mRound : ME P w K mg base (He.ga K "Kinds") "goes_round" 1 (spRound0 (He.ga K "Kinds") K) := ⟨_, fdGr, ["self"], ok_round0 FGr kc hsorted, meth _ _ (by repeat (first | (with_reducible exact List.mem_cons_self) | refine List.mem_cons_of_mem _ ?_)), FGr.bindsN fun _ _ _ _ _ _ us hl => match us, hl with | [_], _ => rfl⟩
  have mPut : MEK P w K mg base (He.ga K "Kinds") "put" 5 3 ["rooms"] (spPut1 (He.ga K "Kinds") (He.ga K "BadName") (He.ga K "Taken") K) := by
    obtain ⟨its, mv, kb⟩ := FPu.kbinds (ps := ["self", "name", "ups", "rooms"]) 3 ["rooms"] [] (fun us _ _ ws => us ++ ws) (by simp [He.DefD.dvs, d_Kinds_put]) (by simp [He.DefD.kws, d_Kinds_put]) (fun q hq => nomatch hq) (fun r1 _ _ r4 => r1.append r4)
      (fun T D doc pm an cdv ct us its mv ws h1 h2 h3 h4 => match us, h1, its, h2, mv, h3, ws, h4 with | [_, _, _], _, [_], _, [], _, [_], _ => ⟨_, rfl, rfl⟩)
    exact ⟨_, fdPu, _, ok_put1 FPu kc hsorted hset hlen hMK eB eT fName mNeed mFork mInh mTold mAll mEnter mRound, meth _ _ (by repeat (first | (with_reducible exact List.mem_cons_self) | refine List.mem_cons_of_mem _ ?_)), kb⟩
  have in3 : ∀ x, Fb.xf x ∈ fb → Fb.f (.noat x "called") ∈ fb → Fb.f (.noat x "name") ∈ fb → Fb.exa x ["Forked"] false ∈ fb → Fb.exa x ["Twice", "Strange", "Wider", "NoFit"] false ∈ fb → Fb.exa x ["BadName", "Taken", "Ring", "NoKind"] true ∈ fb → In3 K mg (He.ga K x) := by
    intro x h1 h2 h3 h4 h5 h6
    refine ⟨xfB_ok (c.fact _ h1), noat _ _ h2, noat _ _ h3, fun c1 g1 => ?_, fun c1 c2 c3 c4 g1 g2 g3 g4 => ?_, fun c1 c2 c3 c4 g1 g2 g3 g4 => ?_⟩
    · rw [glo "Forked" (by repeat (first | (with_reducible exact List.mem_cons_self) | refine List.mem_cons_of_mem _ ?_))] at g1
      cases g1
      exact exa _ _ _ h4
    · rw [glo "Twice" (by repeat (first | (with_reducible exact List.mem_cons_self) | refine List.mem_cons_of_mem _ ?_))] at g1
      rw [glo "Strange" (by repeat (first | (with_reducible exact List.mem_cons_self) | refine List.mem_cons_of_mem _ ?_))] at g2
      rw [glo "Wider" (by repeat (first | (with_reducible exact List.mem_cons_self) | refine List.mem_cons_of_mem _ ?_))] at g3
      rw [glo "NoFit" (by repeat (first | (with_reducible exact List.mem_cons_self) | refine List.mem_cons_of_mem _ ?_))] at g4
      cases g1; cases g2; cases g3; cases g4
      exact exa _ _ _ h5
    · rw [glo "BadName" (by repeat (first | (with_reducible exact List.mem_cons_self) | refine List.mem_cons_of_mem _ ?_))] at g1
      rw [glo "Taken" (by repeat (first | (with_reducible exact List.mem_cons_self) | refine List.mem_cons_of_mem _ ?_))] at g2
      rw [glo "Ring" (by repeat (first | (with_reducible exact List.mem_cons_self) | refine List.mem_cons_of_mem _ ?_))] at g3
      rw [glo "NoKind" (by repeat (first | (with_reducible exact List.mem_cons_self) | refine List.mem_cons_of_mem _ ?_))] at g4
      cases g1; cases g2; cases g3; cases g4
      exact exa _ _ _ h6
  have fTold : FN P w K mg base "_law_put_told" 6 (spTold1 (He.ga K "Kinds") K) := ⟨_, fdTo, ["_law_made", "_law_name", "_law_ups", "_law_some_rooms"], ok_told1 FTo kc mPut (in3 "BadName" (by repeat (first | (with_reducible exact List.mem_cons_self) | refine List.mem_cons_of_mem _ ?_)) (by repeat (first | (with_reducible exact List.mem_cons_self) | refine List.mem_cons_of_mem _ ?_)) (by repeat (first | (with_reducible exact List.mem_cons_self) | refine List.mem_cons_of_mem _ ?_)) (by repeat (first | (with_reducible exact List.mem_cons_self) | refine List.mem_cons_of_mem _ ?_)) (by repeat (first | (with_reducible exact List.mem_cons_self) | refine List.mem_cons_of_mem _ ?_)) (by repeat (first | (with_reducible exact List.mem_cons_self) | refine List.mem_cons_of_mem _ ?_))) (in3 "Taken" (by repeat (first | (with_reducible exact List.mem_cons_self) | refine List.mem_cons_of_mem _ ?_)) (by repeat (first | (with_reducible exact List.mem_cons_self) | refine List.mem_cons_of_mem _ ?_)) (by repeat (first | (with_reducible exact List.mem_cons_self) | refine List.mem_cons_of_mem _ ?_)) (by repeat (first | (with_reducible exact List.mem_cons_self) | refine List.mem_cons_of_mem _ ?_)) (by repeat (first | (with_reducible exact List.mem_cons_self) | refine List.mem_cons_of_mem _ ?_)) (by repeat (first | (with_reducible exact List.mem_cons_self) | refine List.mem_cons_of_mem _ ?_)))
    (glo _ (by repeat (first | (with_reducible exact List.mem_cons_self) | refine List.mem_cons_of_mem _ ?_))) (glo _ (by repeat (first | (with_reducible exact List.mem_cons_self) | refine List.mem_cons_of_mem _ ?_))) (glo _ (by repeat (first | (with_reducible exact List.mem_cons_self) | refine List.mem_cons_of_mem _ ?_))) (glo _ (by repeat (first | (with_reducible exact List.mem_cons_self) | refine List.mem_cons_of_mem _ ?_))) (glo _ (by repeat (first | (with_reducible exact List.mem_cons_self) | refine List.mem_cons_of_mem _ ?_))) (glo _ (by repeat (first | (with_reducible exact List.mem_cons_self) | refine List.mem_cons_of_mem _ ?_))) (glo _ (by repeat (first | (with_reducible exact List.mem_cons_self) | refine List.mem_cons_of_mem _ ?_))) (glo _ (by repeat (first | (with_reducible exact List.mem_cons_self) | refine List.mem_cons_of_mem _ ?_))) (glo _ (by repeat (first | (with_reducible exact List.mem_cons_self) | refine List.mem_cons_of_mem _ ?_))) (glo _ (by repeat (first | (with_reducible exact List.mem_cons_self) | refine List.mem_cons_of_mem _ ?_))) (glo _ (by repeat (first | (with_reducible exact List.mem_cons_self) | refine List.mem_cons_of_mem _ ?_))), glo _ (by repeat (first | (with_reducible exact List.mem_cons_self) | refine List.mem_cons_of_mem _ ?_)), FTo.kp, FTo.bindsN fun _ _ _ _ _ _ us hl => match us, hl with | [_, _, _, _], _ => rfl⟩
  have fBag : FN P w K mg base "_law_bag" 1 (spBag K) := ⟨_, fdBg, ["_law_script"], ok_bag FBg hlist, glo _ (by repeat (first | (with_reducible exact List.mem_cons_self) | refine List.mem_cons_of_mem _ ?_)), FBg.kp, FBg.bindsN fun _ _ _ _ _ _ us hl => match us, hl with | [_], _ => rfl⟩
  have fPull : FN P w K mg base "_law_pull" 1 (spPull K) := ⟨_, fdPl, ["_law_bag_here", "_law_many"], ok_pull FPl hlen, glo _ (by repeat (first | (with_reducible exact List.mem_cons_self) | refine List.mem_cons_of_mem _ ?_)), FPl.kp, FPl.bindsN fun _ _ _ _ _ _ us hl => match us, hl with | [_, _], _ => rfl⟩
  have fText : FN P w K mg base "_law_some_text" 2 (spText K) := ⟨_, fdTx, ["_law_bag_here"], ok_text FTx fPull hrange, glo _ (by repeat (first | (with_reducible exact List.mem_cons_self) | refine List.mem_cons_of_mem _ ?_)), FTx.kp, FTx.bindsN fun _ _ _ _ _ _ us hl => match us, hl with | [_], _ => rfl⟩
  have fGood : FN P w K mg base "_law_good_name" 1 (spP1 K (fun z : Str => z.length ≤ 50000) isName) := ⟨_, fdGd, ["_law_text"], ok_good FGd hlen hall, glo _ (by repeat (first | (with_reducible exact List.mem_cons_self) | refine List.mem_cons_of_mem _ ?_)), FGd.kp, FGd.bindsN fun _ _ _ _ _ _ us hl => match us, hl with | [_], _ => rfl⟩
  have bSame : Binds K fdSm ["_law_found", "_law_due"] [] := FSm.bindsN fun _ _ _ _ _ _ us hl => match us, hl with | [_, _], _ => rfl
  have fSame : FN P w K mg base "_law_same" 2 (spSame K 1) := ⟨_, fdSm, ["_law_found", "_law_due"], ok_same FSm (glo _ (by repeat (first | (with_reducible exact List.mem_cons_self) | refine List.mem_cons_of_mem _ ?_))) FSm.kp bSame (free _ (by repeat (first | (with_reducible exact List.mem_cons_self) | refine List.mem_cons_of_mem _ ?_))) (free _ (by repeat (first | (with_reducible exact List.mem_cons_self) | refine List.mem_cons_of_mem _ ?_))) (free _ (by repeat (first | (with_reducible exact List.mem_cons_self) | refine List.mem_cons_of_mem _ ?_))) (free _ (by repeat (first | (with_reducible exact List.mem_cons_self) | refine List.mem_cons_of_mem _ ?_))) hlist (free _ (by repeat (first | (with_reducible exact List.mem_cons_self) | refine List.mem_cons_of_mem _ ?_))) hlen hrange hall 1, glo _ (by repeat (first | (with_reducible exact List.mem_cons_self) | refine List.mem_cons_of_mem _ ?_)), FSm.kp, bSame⟩
  exact ok_law F kc (He.mkr_ok (c.fact (.f (.mkr "Kinds")) (by repeat (first | (with_reducible exact List.mem_cons_self) | refine List.mem_cons_of_mem _ ?_)))) (ok_init FKI kc hA) (FKI.bindsN fun _ _ _ _ _ _ us hl => match us, hl with | [_], _ => rfl) (glo _ (by repeat (first | (with_reducible exact List.mem_cons_self) | refine List.mem_cons_of_mem _ ?_))) fBag fText fTold fGood fSame mNames hrange
end
end Hd
set_option maxHeartbeats 0
open PySem PySem.W PySem.Calls PyProof.Rows
theorem PySem.Challenge.cw_traitmere_k01_names_of_kinds_holds : PySem.Challenge.rw_traitmere_k01_names_of_kinds.Holds := by
  w_on; o_law
  refine HandSHeadRun.head_any (r := OpenLaw.row PySem.Challenge.rw_traitmere_k01_names_of_kinds) (q := view (OpenLaw.row PySem.Challenge.rw_traitmere_k01_names_of_kinds).prog [35]) (H := Hd.hk) (ob := Hd.ob) (M := 20000) (loose := Hd.loose1) (d := HandSHeadRun.topDef (OpenLaw.row PySem.Challenge.rw_traitmere_k01_names_of_kinds).prog 35) (kwd := []) Hd.ob_eq
    (by kernel_rfl) (fun s => by kernel_rfl) Hd.run (by kernel_rfl) (by kernel_rfl) (by kernel_rfl) (by rfl) (by first | assumption | decide +kernel) (by decide +kernel) ⟨rfl, rfl, rfl, rfl, rfl, by decide +kernel⟩ ?hw ?hc
  case hw => w_witness2
  case hc =>
    refine L2.walk_ofE (l := PySem.Challenge.rw_traitmere_k01_names_of_kinds) (n := 63) (k := 7) (x := "_law_script") (CX := L2.CX0) rfl (by decide) (by kernel_rfl) ⟨rfl, by decide, by decide⟩ ?F (fun _ _ _ _ z => z)
    intro w mg fa h Y G hmg0
    obtain ⟨K, KX, c⟩ := Y
    have hmg : mg ("law" : PySem.Str) = some (.ref fa) := by
      have e : (HandSHeadRun.topDef (OpenLaw.row PySem.Challenge.rw_traitmere_k01_names_of_kinds).prog 35).name = ("law" : PySem.Str) := by kernel_rfl
      rw [← e]
      exact hmg0
    obtain ⟨fd, hb, hF⟩ := Hd.facts (P := (PySem.Challenge.rw_traitmere_k01_names_of_kinds).prog) (w := w) KX G hmg c
    refine ⟨K, fd, Tm.spLaw1 K, KX, hb, fun H a ns hl _ hS => ⟨.ref a, ns, rfl, ⟨a, ns.map L2.V.int, rfl, hS, Tm.All2.ofMap fun _ _ => rfl⟩, fun _ => rfl⟩, hF⟩
