import PyProof.Rows.All
import Wide.All
import OpenK.AllK
import Wide.FinOn
import HandS.ForMost
import HandS.Exc
import HandS.TryOnly
import HandS.TryMany
import HandS.ExcOwn
import HandS.ExcInit
import HandS.ExcIs
import HandS.Small
import HandS.IsInst
import HandS.WideBits
import HandS.FStr
import HandS.WordsExc
import HandS.RaiseMore
import HandS.EndBits
import HandS.Comp
import HandS.List
import HandS.Iter
import PyProof.ReprRoads
import PyProof.ReprBulk
import HandS.Style
import PyProof.SumWalkG
import HandS.Defaults
import HandS.MakeKwOnly
import PySem.Challenge.RW_sampledversions_k85_bounds_as_numbers
set_option Elab.async false
set_option linter.all false
set_option maxRecDepth 100000
set_option maxHeartbeats 4000000
namespace L2.G
open PySem PySem.Spec PyProof.Rows
/-! A layer of our own over HandS: weakest preconditions on the expressions themselves, the heap known from below, calls with no repr at work. -/

/-! ## heaps from below -/
def Ex (H H' : Hp) : Prop := ∀ a o, H a = some o → H' a = some o
theorem Ex.refl (H : Hp) : Ex H H := fun _ _ h => h
theorem Ex.trans {H H1 H2 : Hp} (a : Ex H H1) (b : Ex H1 H2) : Ex H H2 := fun x o h => b x o (a x o h)
theorem Ex.free {H H' : Hp} (e : Ex H H') {p : Addr} (h : H' p = none) : H p = none := by
  cases q : H p with
  | none => rfl
  | some o => rw [e p o q] at h; cases h
theorem Ex.new {H H' : Hp} {p : Addr} {o : HO} (e : Ex H H') (h : H' p = none) : Ex H (upd H' p o) := fun a u ha => by
  rw [upd_ne (ne_of_none (e a u ha) h)]
  exact e a u ha
theorem Ex.set {H H' : Hp} (e : Ex H H') (p : Addr) (o : HO) : Ex (upd H p o) (upd H' p o) := fun a u ha => by
  by_cases h : a = p
  · subst h; rw [upd_same] at ha ⊢; exact ha
  · rw [upd_ne h] at ha ⊢; exact e a u ha
theorem Ex.put {H : Hp} {p : Addr} {o : HO} (h : H p = none) : Ex H (upd H p o) := Ex.new (Ex.refl H) h
theorem Ex.rd {H H' : Hp} {a : Addr} {u : HO} (e : Ex H H') (h : Rd H a u) : Rd H' a u := by
  rcases h with h | ⟨o, h⟩
  · exact Or.inl (e a _ h)
  · exact Or.inr ⟨o, e a _ h⟩
theorem Ex.sqL {K : PySem.W.Frag} {H H' : Hp} {a : Addr} {xs : List V} (e : Ex H H') (h : SqL K H a xs) : SqL K H' a xs := by
  rcases h with h | h
  · exact Or.inl (e.rd h)
  · exact Or.inr h
theorem Ex.sqT {K : PySem.W.Frag} {H H' : Hp} {a : Addr} {xs : List V} (e : Ex H H') (h : SqT K H a xs) : SqT K H' a xs := by
  rcases h with h | h
  · exact Or.inl (e.rd h)
  · exact Or.inr h

/-! ## wishes, lifted -/
def up (Q : VK) : VK := fun v H2 => ∃ H', Ex H' H2 ∧ Q v H'
def upB (Q : Bool → Hp → Prop) : Bool → Hp → Prop := fun v H2 => ∃ H', Ex H' H2 ∧ Q v H'
def upA (Q : List V → Hp → Prop) : List V → Hp → Prop := fun v H2 => ∃ H', Ex H' H2 ∧ Q v H'
def upS (Q : St → Hp → Prop) : St → Hp → Prop := fun v H2 => ∃ H', Ex H' H2 ∧ Q v H'
def upE (Q : XK) : XK := fun c d H2 => ∃ H', Ex H' H2 ∧ Q c d H'
def upD (D : Ends) : Ends := { nx := upS D.nx, rt := up D.rt, bk := upS D.bk, ct := upS D.ct }
theorem up.i {Q : VK} {v : V} {H : Hp} (q : Q v H) : up Q v H := ⟨H, Ex.refl H, q⟩
theorem upS.i {Q : St → Hp → Prop} {v : St} {H : Hp} (q : Q v H) : upS Q v H := ⟨H, Ex.refl H, q⟩
theorem upB.i {Q : Bool → Hp → Prop} {v : Bool} {H : Hp} (q : Q v H) : upB Q v H := ⟨H, Ex.refl H, q⟩
theorem upA.i {Q : List V → Hp → Prop} {v : List V} {H : Hp} (q : Q v H) : upA Q v H := ⟨H, Ex.refl H, q⟩

/-! ## weakest preconditions -/
def WE (X : Cx) (e : Expr) (σ : St) (H : Hp) (Q : VK) : Prop :=
  ∀ H1, Ex H H1 → ∀ pins s, Inv X pins σ H1 s → wpAny (model X.prog X.w) X.A (eval e X.env) (EP X pins σ (up Q)) X.xe s
def WT (X : Cx) (e : Expr) (σ : St) (H : Hp) (Q : Bool → Hp → Prop) : Prop :=
  ∀ H1, Ex H H1 → ∀ pins s, Inv X pins σ H1 s → wpAny (model X.prog X.w) X.A (isTrue e X.env (eval e X.env)) (TP X pins σ (upB Q)) X.xe s
def WW (X : Cx) (e : Expr) (σ : St) (H : Hp) (Q : Bool → Hp → Prop) : Prop :=
  ∀ H1, Ex H H1 → ∀ whole pins s, Inv X pins σ H1 s → wpAny (model X.prog X.w) X.A (isTrue e X.env whole) (TP X pins σ (upB Q)) X.xe s
def WA (X : Cx) (es : List Expr) (σ : St) (H : Hp) (Q : List V → Hp → Prop) : Prop :=
  ∀ H1, Ex H H1 → ∀ pos pins s, Inv X pins σ H1 s → wpAny (model X.prog X.w) X.A (spliced (backTo pos (starEach es X.env))) (AP X pins σ (upA Q)) X.xe s
def WS (X : Cx) (st : Stmt) (D : Ends) (σ : St) (H : Hp) : Prop :=
  ∀ H1, Ex H H1 → ∀ pins s, Inv X pins σ H1 s → wpAny (model X.prog X.w) X.A (exec st X.env) (SP X pins (upD D)) X.xe s
def WSs (X : Cx) (st : List Stmt) (D : Ends) (σ : St) (H : Hp) : Prop :=
  ∀ H1, Ex H H1 → ∀ pins s, Inv X pins σ H1 s → wpAny (model X.prog X.w) X.A (execs st X.env) (SP X pins (upD D)) X.xe s
/-- an operation on two values | a call of a value | a method's call | a subscript -/
def WO (X : Cx) (f : Value → Value → Sem Value) (x y : V) (H : Hp) (Q : VK) : Prop :=
  ∀ H1, Ex H H1 → ∀ pins s σ v u, Inv X pins σ H1 s → RelV x v → RelV y u → wpAny (model X.prog X.w) X.A (f v u) (EP X pins σ (up Q)) X.xe s
def WC (X : Cx) (f : Value) (xs : List V) (H : Hp) (Q : VK) : Prop :=
  ∀ H1, Ex H H1 → ∀ pins s σ us, Inv X pins σ H1 s → Vals xs us → wpAny (model X.prog X.w) X.A (call f us) (EP X pins σ (up Q)) X.xe s

section
variable {X : Cx} {e a b c : Expr} {es : List Expr} {st : Stmt} {sts : List Stmt} {σ : St} {H H1 H' : Hp} {Q Q1 : VK} {QB QB1 : Bool → Hp → Prop} {QA QA1 : List V → Hp → Prop} {D : Ends} {x y z v : V} {pos : Pos} {f : Value → Value → Sem Value} {fn : Value} {xs : List V}

/-- the readings that HandS's rules take -/
def tWE (X : Cx) (e : Expr) : TE := fun σ H1 Q1 => ∃ H Q, Ex H H1 ∧ WE X e σ H Q ∧ ∀ v H2, up Q v H2 → Q1 v H2
def tWT (X : Cx) (e : Expr) : TT := fun σ H1 Q1 => ∃ H Q, Ex H H1 ∧ WT X e σ H Q ∧ ∀ v H2, upB Q v H2 → Q1 v H2
def tWW (X : Cx) (e : Expr) : TT := fun σ H1 Q1 => ∃ H Q, Ex H H1 ∧ WW X e σ H Q ∧ ∀ v H2, upB Q v H2 → Q1 v H2
def tWA (X : Cx) (es : List Expr) : TA := fun σ H1 Q1 => ∃ H Q, Ex H H1 ∧ WA X es σ H Q ∧ ∀ v H2, upA Q v H2 → Q1 v H2
structure EndsLe (D D1 : Ends) : Prop where
  nx : ∀ σ H, upS D.nx σ H → D1.nx σ H
  rt : ∀ v H, up D.rt v H → D1.rt v H
  bk : ∀ σ H, upS D.bk σ H → D1.bk σ H
  ct : ∀ σ H, upS D.ct σ H → D1.ct σ H
def tWS (X : Cx) (st : Stmt) : TS := fun D1 σ H1 => ∃ H D, Ex H H1 ∧ WS X st D σ H ∧ EndsLe D D1
def tWSs (X : Cx) (st : List Stmt) : TS := fun D1 σ H1 => ∃ H D, Ex H H1 ∧ WSs X st D σ H ∧ EndsLe D D1
def rWO (X : Cx) (f : Value → Value → Sem Value) : R2 := fun x y H1 Q1 => ∃ H Q, Ex H H1 ∧ WO X f x y H Q ∧ ∀ v H2, up Q v H2 → Q1 v H2
def rWC (X : Cx) (fn : Value) : List V → Hp → VK → Prop := fun xs H1 Q1 => ∃ H Q, Ex H H1 ∧ WC X fn xs H Q ∧ ∀ v H2, up Q v H2 → Q1 v H2

theorem pe_W : PE X e (tWE X e) := ⟨fun pins s σ H1 Q1 I ⟨H, Q, x, w, k⟩ => thn (w H1 x pins s I) fun u s' ⟨v, H2, I2, r, q⟩ => ⟨v, H2, I2, r, k v H2 q⟩⟩
theorem pt_W : PT X e (tWT X e) := ⟨fun pins s σ H1 Q1 I ⟨H, Q, x, w, k⟩ => thn (w H1 x pins s I) fun u s' ⟨H2, I2, q⟩ => ⟨H2, I2, k _ H2 q⟩⟩
theorem pw_W : PW X e (tWW X e) := ⟨fun wh pins s σ H1 Q1 I ⟨H, Q, x, w, k⟩ => thn (w H1 x wh pins s I) fun u s' ⟨H2, I2, q⟩ => ⟨H2, I2, k _ H2 q⟩⟩
theorem pa_W : PA X es (tWA X es) := ⟨fun pos pins s σ H1 Q1 I ⟨H, Q, x, w, k⟩ => thn (w H1 x pos pins s I) fun u s' ⟨v, H2, I2, r, q⟩ => ⟨v, H2, I2, r, k v H2 q⟩⟩
theorem SP.le {X : Cx} {pins : List (Addr × Obj)} {D D1 : Ends} (k : EndsLe D D1) {f : Flow} {s : Shared} (q : SP X pins (upD D) f s) : SP X pins D1 f s := by
  cases f with
  | next => obtain ⟨σ', H', I, q⟩ := q; exact ⟨σ', H', I, k.nx _ _ q⟩
  | brk => obtain ⟨σ', H', I, q⟩ := q; exact ⟨σ', H', I, k.bk _ _ q⟩
  | cont => obtain ⟨σ', H', I, q⟩ := q; exact ⟨σ', H', I, k.ct _ _ q⟩
  | ret u => obtain ⟨v, σ', H', I, r, q⟩ := q; exact ⟨v, σ', H', I, r, k.rt _ _ q⟩
theorem ps_W : PS X st (tWS X st) := ⟨fun pins s σ H1 D1 I ⟨H, D, x, w, k⟩ => thn (w H1 x pins s I) fun u s' q => SP.le k q⟩
theorem pss_W : PSs X sts (tWSs X sts) := ⟨fun pins s σ H1 D1 I ⟨H, D, x, w, k⟩ => thn (w H1 x pins s I) fun u s' q => SP.le k q⟩
theorem op_W : OpR X f (rWO X f) := fun pins s σ H1 x y v u Q1 I rx ry ⟨H, Q, e, w, k⟩ => thn (w H1 e pins s σ v u I rx ry) fun u s' ⟨v, H2, I2, r, q⟩ => ⟨v, H2, I2, r, k v H2 q⟩
theorem call_W : CallR X fn (rWC X fn) := fun pins s σ H1 xs us Q1 I r ⟨H, Q, e, w, k⟩ => thn (w H1 e pins s σ us I r) fun u s' ⟨v, H2, I2, r, q⟩ => ⟨v, H2, I2, r, k v H2 q⟩

theorem WE.of {t : TE} (h : PE X e t) (q : ∀ H1, Ex H H1 → t σ H1 (up Q)) : WE X e σ H Q := fun H1 x pins s I => h.run pins s σ H1 _ I (q H1 x)
theorem WT.of {t : TT} (h : PT X e t) (q : ∀ H1, Ex H H1 → t σ H1 (upB QB)) : WT X e σ H QB := fun H1 x pins s I => h.run pins s σ H1 _ I (q H1 x)
theorem WW.of {t : TT} (h : PW X e t) (q : ∀ H1, Ex H H1 → t σ H1 (upB QB)) : WW X e σ H QB := fun H1 x wh pins s I => h.run wh pins s σ H1 _ I (q H1 x)
theorem WA.of {t : TA} (h : PA X es t) (q : ∀ H1, Ex H H1 → t σ H1 (upA QA)) : WA X es σ H QA := fun H1 x pos pins s I => h.run pos pins s σ H1 _ I (q H1 x)
theorem WS.of {t : TS} (h : PS X st t) (q : ∀ H1, Ex H H1 → t (upD D) σ H1) : WS X st D σ H := fun H1 x pins s I => h.run pins s σ H1 _ I (q H1 x)
theorem WSs.of {t : TS} (h : PSs X sts t) (q : ∀ H1, Ex H H1 → t (upD D) σ H1) : WSs X sts D σ H := fun H1 x pins s I => h.run pins s σ H1 _ I (q H1 x)
theorem WO.of {r : R2} (h : OpR X f r) (q : ∀ H1, Ex H H1 → r x y H1 (up Q)) : WO X f x y H Q := fun H1 e pins s σ v u I rx ry => h pins s σ H1 x y v u _ I rx ry (q H1 e)
theorem WC.of {r : List V → Hp → VK → Prop} (h : CallR X fn r) (q : ∀ H1, Ex H H1 → r xs H1 (up Q)) : WC X fn xs H Q := fun H1 e pins s σ us I rs => h pins s σ H1 xs us _ I rs (q H1 e)

theorem WE.t (w : WE X e σ H Q) (x : Ex H H1) (k : ∀ v H2, up Q v H2 → Q1 v H2) : tWE X e σ H1 Q1 := ⟨H, Q, x, w, k⟩
theorem WT.t (w : WT X e σ H QB) (x : Ex H H1) (k : ∀ v H2, upB QB v H2 → QB1 v H2) : tWT X e σ H1 QB1 := ⟨H, QB, x, w, k⟩
theorem WW.t (w : WW X e σ H QB) (x : Ex H H1) (k : ∀ v H2, upB QB v H2 → QB1 v H2) : tWW X e σ H1 QB1 := ⟨H, QB, x, w, k⟩
theorem WA.t (w : WA X es σ H QA) (x : Ex H H1) (k : ∀ v H2, upA QA v H2 → QA1 v H2) : tWA X es σ H1 QA1 := ⟨H, QA, x, w, k⟩
theorem WO.t (w : WO X f x y H Q) (e : Ex H H1) (k : ∀ v H2, up Q v H2 → Q1 v H2) : rWO X f x y H1 Q1 := ⟨H, Q, e, w, k⟩
theorem WC.t (w : WC X fn xs H Q) (e : Ex H H1) (k : ∀ v H2, up Q v H2 → Q1 v H2) : rWC X fn xs H1 Q1 := ⟨H, Q, e, w, k⟩

theorem up.mono {Q Q' : VK} (k : ∀ v H, Q v H → Q' v H) {v : V} {H : Hp} : up Q v H → up Q' v H := fun ⟨H', x, q⟩ => ⟨H', x, k _ _ q⟩
theorem WE.mono (w : WE X e σ H Q) (k : ∀ v H, Q v H → Q1 v H) : WE X e σ H Q1 := fun H1 x pins s I => thn (w H1 x pins s I) fun u s' ⟨v, H2, I2, r, q⟩ => ⟨v, H2, I2, r, up.mono k q⟩
theorem WE.ex (w : WE X e σ H Q) (x : Ex H H') : WE X e σ H' Q := fun H1 x1 => w H1 (x.trans x1)
/-- what was made on the way is forgotten -/
theorem WE.forget (w : WE X e σ H fun v H1 => ∃ H', Ex H' H1 ∧ Q v H') : WE X e σ H Q := fun H1 x pins s I => thn (w H1 x pins s I) fun u s' ⟨v, H2, I2, r, H3, x3, H4, x4, q⟩ => ⟨v, H2, I2, r, H4, x4.trans x3, q⟩
theorem WSs.le {D1 : Ends} (w : WSs X sts D σ H) (k : EndsLe D (upD D1)) : WSs X sts D1 σ H := fun H1 x pins s I => thn (w H1 x pins s I) fun u s' q => SP.le k q
theorem EndsLe.i {D D1 : Ends} (nx : ∀ σ H, D.nx σ H → D1.nx σ H) (rt : ∀ σ H, D.rt σ H → D1.rt σ H) (bk : ∀ σ H, D.bk σ H → D1.bk σ H) (ct : ∀ σ H, D.ct σ H → D1.ct σ H) : EndsLe D (upD D1) :=
  ⟨fun _ _ ⟨H, x, q⟩ => ⟨H, x, nx _ _ q⟩, fun _ _ ⟨H, x, q⟩ => ⟨H, x, rt _ _ q⟩, fun _ _ ⟨H, x, q⟩ => ⟨H, x, bk _ _ q⟩, fun _ _ ⟨H, x, q⟩ => ⟨H, x, ct _ _ q⟩⟩
theorem EndsLe.rfl {D : Ends} : EndsLe D (upD D) := .i (fun _ _ q => q) (fun _ _ q => q) (fun _ _ q => q) fun _ _ q => q

/-! ## pure: a value, nothing changed -/
def EV (X : Cx) (e : Expr) (σ : St) (H : Hp) (v : V) : Prop := ∀ H1, Ex H H1 → ∀ Q : VK, Q v H1 → WE X e σ H1 Q
def ET (X : Cx) (e : Expr) (σ : St) (H : Hp) (v : Bool) : Prop := ∀ H1, Ex H H1 → ∀ Q : Bool → Hp → Prop, Q v H1 → WT X e σ H1 Q
def EW (X : Cx) (e : Expr) (σ : St) (H : Hp) (v : Bool) : Prop := ∀ H1, Ex H H1 → ∀ Q : Bool → Hp → Prop, Q v H1 → WW X e σ H1 Q
def EA (X : Cx) (es : List Expr) (σ : St) (H : Hp) (vs : List V) : Prop := ∀ H1, Ex H H1 → ∀ Q : List V → Hp → Prop, Q vs H1 → WA X es σ H1 Q
def EO (X : Cx) (f : Value → Value → Sem Value) (x y : V) (H : Hp) (z : V) : Prop := ∀ H1, Ex H H1 → ∀ Q : VK, Q z H1 → WO X f x y H1 Q
def EC (X : Cx) (fn : Value) (xs : List V) (H : Hp) (z : V) : Prop := ∀ H1, Ex H H1 → ∀ Q : VK, Q z H1 → WC X fn xs H1 Q
/-- a new object -/
def EN (X : Cx) (e : Expr) (σ : St) (H : Hp) (o : HO) : Prop := ∀ H1, Ex H H1 → ∀ Q : VK, (∀ p, H1 p = none → Q (.ref p) (upd H1 p o)) → WE X e σ H1 Q
def CN (X : Cx) (fn : Value) (xs : List V) (H : Hp) (o : HO) : Prop := ∀ H1, Ex H H1 → ∀ Q : VK, (∀ p, H1 p = none → Q (.ref p) (upd H1 p o)) → WC X fn xs H1 Q
theorem EV.we (h : EV X e σ H v) (q : Q v H) : WE X e σ H Q := h H (Ex.refl H) Q q
theorem ET.wt {v : Bool} (h : ET X e σ H v) (q : QB v H) : WT X e σ H QB := h H (Ex.refl H) QB q
theorem EW.ww {v : Bool} (h : EW X e σ H v) (q : QB v H) : WW X e σ H QB := h H (Ex.refl H) QB q
theorem EA.wa {vs : List V} (h : EA X es σ H vs) (q : QA vs H) : WA X es σ H QA := h H (Ex.refl H) QA q
theorem EO.wo (h : EO X f x y H z) (q : Q z H) : WO X f x y H Q := h H (Ex.refl H) Q q
theorem EC.wc (h : EC X fn xs H z) (q : Q z H) : WC X fn xs H Q := h H (Ex.refl H) Q q
theorem EN.we {o : HO} (h : EN X e σ H o) (q : ∀ p, H p = none → Q (.ref p) (upd H p o)) : WE X e σ H Q := h H (Ex.refl H) Q q
theorem CN.wc {o : HO} (h : CN X fn xs H o) (q : ∀ p, H p = none → Q (.ref p) (upd H p o)) : WC X fn xs H Q := h H (Ex.refl H) Q q
theorem EV.ex (h : EV X e σ H v) (x : Ex H H') : EV X e σ H' v := fun H1 x1 => h H1 (x.trans x1)
theorem ET.ex {v : Bool} (h : ET X e σ H v) (x : Ex H H') : ET X e σ H' v := fun H1 x1 => h H1 (x.trans x1)
theorem EN.ex {o : HO} (h : EN X e σ H o) (x : Ex H H') : EN X e σ H' o := fun H1 x1 => h H1 (x.trans x1)
theorem EA.ex {vs : List V} (h : EA X es σ H vs) (x : Ex H H') : EA X es σ H' vs := fun H1 x1 => h H1 (x.trans x1)
theorem EO.ex (h : EO X f x y H z) (x0 : Ex H H') : EO X f x y H' z := fun H1 x1 => h H1 (x0.trans x1)
theorem EV.is {w : V} (h : EV X e σ H v) (q : v = w) : EV X e σ H w := q ▸ h
theorem ET.is {v w : Bool} (h : ET X e σ H v) (q : v = w) : ET X e σ H w := q ▸ h
theorem EO.is {w : V} (h : EO X f x y H v) (q : v = w) : EO X f x y H w := q ▸ h
end
section
variable {X : Cx} {e a b c : Expr} {es rest : List Expr} {st : Stmt} {sts : List Stmt} {σ : St} {H H1 H' : Hp} {Q Q1 : VK} {QB QB1 : Bool → Hp → Prop} {QA QA1 : List V → Hp → Prop} {D : Ends} {x y z v w : V} {pos p pos' : Pos} {f : Value → Value → Sem Value} {fn : Value} {xs vs : List V} {k l : Bool}

/-! ## names, constants -/
theorem ev_var {i : Nat} {n : Str} (hN : X.N[i]? = some n) (hv : Vis X.env.scope n) (hs : σ[i]? = some (some v)) (hd : (n == ("__debug__" : Str)) = false := by decide) (hcd : (n == ("__classdict__" : Str)) = false := by decide) : EV X (.Name n pos) σ H v :=
  fun H1 x Q q => .of (pe_var hN hv hd hcd) fun H2 x2 => ⟨v, hs, H1, x2, q⟩
theorem ev_int {i : Int} {j} : EV X (.Constant (.int i) j pos) σ H (.int i) := fun H1 x Q q => .of pe_int fun H2 x2 => ⟨H1, x2, q⟩
theorem ev_bl {i : Bool} {j} : EV X (.Constant (.bool i) j pos) σ H (.bl i) := fun H1 x Q q => .of pe_bl fun H2 x2 => ⟨H1, x2, q⟩
theorem ev_non {j} : EV X (.Constant .none j pos) σ H .non := fun H1 x Q q => .of pe_non fun H2 x2 => ⟨H1, x2, q⟩
theorem ev_str {i : Str} {j} : EV X (.Constant (.str i) j pos) σ H (.str i) := fun H1 x Q q => .of pe_str fun H2 x2 => ⟨H1, x2, q⟩
theorem ev_glob {n : Str} {u : Value} (hm : X.mg n = some u) (r : RelV v u) (hg : Gl X n := by rfl) (hd : (n == ("__debug__" : Str)) = false := by decide) : EV X (.Name n pos) σ H v := fun H1 x Q q => .of (pe_glob hg hm r hd) fun H2 x2 => ⟨H1, x2, q⟩
theorem ev_bltn {n : Str} {u : Value} (hm : X.mg n = none) (hv : bootBuiltins n = some u) (r : RelV v u) (hg : Gl X n := by rfl) (hn : n ≠ "__name__" := by decide) (hd : (n == ("__debug__" : Str)) = false := by decide) : EV X (.Name n pos) σ H v := fun H1 x Q q => .of (pe_bltn hg hm hv r hn hd) fun H2 x2 => ⟨H1, x2, q⟩

/-! ## operators -/
theorem we_bin {op : Operator} (h : WE X a σ H fun x H1 => WE X b σ H1 fun y H2 => WO X (binaryOp op) x y H2 Q) : WE X (.BinOp a op b pos) σ H Q :=
  .of (pe_op op_W pe_W pe_W) fun H1 x => h.t x fun v H2 ⟨H3, x3, w⟩ => w.t x3 fun u H4 ⟨H5, x5, o⟩ => o.t x5 fun _ _ q => q
theorem ev_bin {op : Operator} (ha : EV X a σ H x) (hb : EV X b σ H y) (ho : EO X (binaryOp op) x y H z) : EV X (.BinOp a op b pos) σ H z := fun H1 e Q q =>
  we_bin ((ha.ex e).we ((hb.ex e).we ((ho.ex e).wo q)))
def UN (X : Cx) (f : Value → Sem Value) (x : V) (H : Hp) (z : V) : Prop := ∀ H1, Ex H H1 → ∀ pins s σ v, Inv X pins σ H1 s → RelV x v → ∀ Q : VK, Q z H1 → wpAny (model X.prog X.w) X.A (f v) (EP X pins σ Q) X.xe s
theorem we_un {op : UnaryOp} (h : WE X a σ H fun x H1 => ∃ z, UN X (unaryOp op) x H1 z ∧ Q z H1) : WE X (.UnaryOp op a pos) σ H Q :=
  .of (pe_un (r := fun x H1 Q1 => ∃ H z, Ex H H1 ∧ UN X (unaryOp op) x H z ∧ Q1 z H1) (fun pins s σ H1 x v Q I rx ⟨H, z, e, h, q⟩ => h H1 e pins s σ v I rx Q q) pe_W) fun H1 x => h.t x fun v H2 ⟨H3, x3, z, h3, q⟩ => ⟨H3, z, x3, h3, H3, x3, q⟩
theorem un_neg {i : Int} : UN X (unaryOp .USub) (.int i) H (.int (-i)) := fun H1 e pins s σ v I rx Q q => L2.un_neg pins s σ H1 _ v Q I rx ⟨i, rfl, q⟩
theorem ev_un {op : UnaryOp} (ha : EV X a σ H x) (ho : UN X (unaryOp op) x H z) : EV X (.UnaryOp op a pos) σ H z := fun H1 e Q q =>
  we_un ((ha.ex e).we ⟨z, fun H2 e2 => ho H2 (e.trans e2), q⟩)
theorem eo_of {r : R2} (h : OpR X f r) (q : ∀ H1, Ex H H1 → ∀ Q : VK, Q z H1 → r x y H1 Q) : EO X f x y H z := fun H1 e Q k => .of h fun H2 e2 => q H2 (e.trans e2) _ ⟨H1, e2, k⟩
section
variable {i j : Int}
theorem eo_add : EO X (binaryOp .Add) (.int i) (.int j) H (.int (i + j)) := eo_of op_add fun _ _ _ q => ⟨i, j, rfl, rfl, q⟩
theorem eo_sub : EO X (binaryOp .Sub) (.int i) (.int j) H (.int (i - j)) := eo_of op_sub fun _ _ _ q => ⟨i, j, rfl, rfl, q⟩
theorem eo_mul (h : CMul i j) : EO X (binaryOp .Mult) (.int i) (.int j) H (.int (i * j)) := eo_of op_mul fun _ _ _ q => ⟨i, j, rfl, rfl, h, q⟩
theorem eo_mulX (h : CMulX i j) : EO X (binaryOp .Mult) (.int i) (.int j) H (.int (i * j)) := eo_of op_mulX fun _ _ _ q => ⟨i, j, rfl, rfl, h, q⟩
theorem eo_mod (h : 0 < j) : EO X (binaryOp .Mod) (.int i) (.int j) H (.int (i % j)) := eo_of op_mod fun _ _ _ q => ⟨i, j, rfl, rfl, h, q⟩
theorem eo_fdiv (h : CDivW i j) : EO X (binaryOp .FloorDiv) (.int i) (.int j) H (.int (i / j)) := eo_of op_fdivW fun _ _ _ q => ⟨i, j, rfl, rfl, h, q⟩
theorem eo_pow (h : CPow i j) : EO X (binaryOp .Pow) (.int i) (.int j) H (.int (i ^ j.toNat)) := eo_of op_pow fun _ _ _ q => ⟨i, j, rfl, rfl, h, q⟩
theorem eo_shl (h : CShl i j) : EO X (binaryOp .LShift) (.int i) (.int j) H (.int (i * 2 ^ j.toNat)) := eo_of op_shlW fun _ _ _ q => ⟨i, j, rfl, rfl, h, q⟩
theorem eo_shr (h : 0 ≤ j) : EO X (binaryOp .RShift) (.int i) (.int j) H (.int (i / 2 ^ j.toNat)) := eo_of op_shr fun _ _ _ q => ⟨i, j, rfl, rfl, h, q⟩
theorem eo_and : EO X (binaryOp .BitAnd) (.int i) (.int j) H (.int (Builtin.bitAnd i j)) := eo_of op_and fun _ _ _ q => ⟨i, j, rfl, rfl, q⟩
theorem eo_lt : EO X (compareOp .Lt) (.int i) (.int j) H (.bl (decide (i < j))) := eo_of op_lt fun _ _ _ q => ⟨i, j, rfl, rfl, q⟩
theorem eo_le : EO X (compareOp .LtE) (.int i) (.int j) H (.bl (decide (i ≤ j))) := eo_of op_le fun _ _ _ q => ⟨i, j, rfl, rfl, q⟩
theorem eo_gt : EO X (compareOp .Gt) (.int i) (.int j) H (.bl (decide (j < i))) := eo_of op_gt fun _ _ _ q => ⟨i, j, rfl, rfl, q⟩
theorem eo_ge : EO X (compareOp .GtE) (.int i) (.int j) H (.bl (decide (j ≤ i))) := eo_of op_ge fun _ _ _ q => ⟨i, j, rfl, rfl, q⟩
theorem eo_eqI : EO X (compareOp .Eq) (.int i) (.int j) H (.bl (decide (i = j))) := (eo_of (z := .bl (decide (V.int i = V.int j))) op_eq fun _ _ _ q => ⟨rfl, q⟩).is (by congr 1; rw [dec_int, Bool.eq_iff_iff]; simp)
theorem eo_neI : EO X (compareOp .NotEq) (.int i) (.int j) H (.bl (!decide (i = j))) := (eo_of (z := .bl (!decide (V.int i = V.int j))) op_ne fun _ _ _ q => ⟨rfl, q⟩).is (by congr 2; rw [dec_int, Bool.eq_iff_iff]; simp)
end
theorem eo_eqS {i j : Str} : EO X (compareOp .Eq) (.str i) (.str j) H (.bl (decide (i = j))) := (eo_of (z := .bl (decide (V.str i = V.str j))) op_eq fun _ _ _ q => ⟨rfl, q⟩).is (by congr 1; rw [dec_str, Bool.eq_iff_iff]; simp)
theorem eo_neS {i j : Str} : EO X (compareOp .NotEq) (.str i) (.str j) H (.bl (!decide (i = j))) := (eo_of (z := .bl (!decide (V.str i = V.str j))) op_ne fun _ _ _ q => ⟨rfl, q⟩).is (by congr 2; rw [dec_str, Bool.eq_iff_iff]; simp)
theorem eo_eq (h : scal x y = true) : EO X (compareOp .Eq) x y H (.bl (decide (x = y))) := eo_of op_eq fun _ _ _ q => ⟨h, q⟩
theorem eo_ne (h : scal x y = true) : EO X (compareOp .NotEq) x y H (.bl (!decide (x = y))) := eo_of op_ne fun _ _ _ q => ⟨h, q⟩
theorem eo_isN : EO X (compareOp .Is) x .non H (.bl (decide (x = .non))) := eo_of op_isN fun _ _ _ q => ⟨rfl, q⟩
theorem eo_notN : EO X (compareOp .IsNot) x .non H (.bl (!decide (x = .non))) := eo_of op_notN fun _ _ _ q => ⟨rfl, q⟩
theorem eo_inL {q : Addr} (h : SqL X.K H q xs) (hx : flatV x = true) (ha : xs.all flatV = true) : EO X (compareOp .In) x (.ref q) H (.bl (inV x xs)) := eo_of op_in_seq fun _ e _ k => ⟨q, xs, rfl, .inl (e.sqL h), hx, ha, k⟩
theorem eo_inT {q : Addr} (h : SqT X.K H q xs) (hx : flatV x = true) (ha : xs.all flatV = true) : EO X (compareOp .In) x (.ref q) H (.bl (inV x xs)) := eo_of op_in_seq fun _ e _ k => ⟨q, xs, rfl, .inr (e.sqT h), hx, ha, k⟩
theorem eo_ninL {q : Addr} (h : SqL X.K H q xs) (hx : flatV x = true) (ha : xs.all flatV = true) : EO X (compareOp .NotIn) x (.ref q) H (.bl (!inV x xs)) := eo_of op_notIn_seq fun _ e _ k => ⟨q, xs, rfl, .inl (e.sqL h), hx, ha, k⟩
theorem eo_ninT {q : Addr} (h : SqT X.K H q xs) (hx : flatV x = true) (ha : xs.all flatV = true) : EO X (compareOp .NotIn) x (.ref q) H (.bl (!inV x xs)) := eo_of op_notIn_seq fun _ e _ k => ⟨q, xs, rfl, .inr (e.sqT h), hx, ha, k⟩

/-! ## comparisons -/
theorem we_cmp {op : CmpOp} (h : WE X a σ H fun x H1 => WE X b σ H1 fun y H2 => WO X (compareOp op) x y H2 Q) (hm : behindInMarks op b = false := by first | exact nomark _ | with_unfolding_all rfl) : WE X (.Compare a [op] [b] pos) σ H Q :=
  .of (pe_cmpR op_W pe_W pe_W hm) fun H1 x => h.t x fun v H2 ⟨H3, x3, w⟩ => w.t x3 fun u H4 ⟨H5, x5, o⟩ => o.t x5 fun _ _ q => q
theorem ev_cmp {op : CmpOp} (ha : EV X a σ H x) (hb : EV X b σ H y) (ho : EO X (compareOp op) x y H z) (hm : behindInMarks op b = false := by first | exact nomark _ | with_unfolding_all rfl) : EV X (.Compare a [op] [b] pos) σ H z := fun H1 e Q q =>
  we_cmp ((ha.ex e).we ((hb.ex e).we ((ho.ex e).wo q))) hm
theorem wt_cmp {op : CmpOp} (h : WE X a σ H fun x H1 => WE X b σ H1 fun y H2 => WO X (compareOp op) x y H2 fun z H3 => ∃ k, z = .bl k ∧ QB k H3) (hm : behindInMarks op b = false := by first | exact nomark _ | with_unfolding_all rfl) : WT X (.Compare a [op] [b] pos) σ H QB :=
  .of (pt_cmpR op_W pe_W pe_W hm) fun H1 x => h.t x fun v H2 ⟨H3, x3, w⟩ => w.t x3 fun u H4 ⟨H5, x5, o⟩ => o.t x5 fun _ _ ⟨H6, x6, k, e, q⟩ => ⟨k, e, H6, x6, q⟩
theorem et_cmp {op : CmpOp} (ha : EV X a σ H x) (hb : EV X b σ H y) (ho : EO X (compareOp op) x y H (.bl k)) (hm : behindInMarks op b = false := by first | exact nomark _ | with_unfolding_all rfl) : ET X (.Compare a [op] [b] pos) σ H k := fun H1 e Q q =>
  wt_cmp ((ha.ex e).we ((hb.ex e).we ((ho.ex e).wo ⟨k, rfl, q⟩))) hm
/-- a op b op' c -/
theorem ev_chain {op op' : CmpOp} (ha : EV X a σ H x) (hb : EV X b σ H y) (ho : EO X (compareOp op) x y H (.bl k)) (hc : EV X c σ H z) (ho' : EO X (compareOp op') y z H (.bl l)) (hm : lastMarks [op, op'] [b, c] = false := by with_unfolding_all rfl) : EV X (.Compare a [op, op'] [b, c] pos) σ H (.bl (k && l)) := fun H1 e Q q =>
  .of (pe_chain op_W op_W pe_W pe_W pe_W hm) fun H2 e2 => ((ha.ex e).we (Q := fun v H => v = x ∧ H = H1) ⟨rfl, rfl⟩).t e2 fun v H3 ⟨H3', x3, ev, eH⟩ => by
    subst ev; subst eH
    refine ((hb.ex e).we (Q := fun v H => v = y ∧ H = H3') ⟨rfl, rfl⟩).t x3 fun u H4 ⟨H4', x4, eu, eH⟩ => ?_
    subst eu; subst eH
    refine ((ho.ex e).wo (Q := fun v H => v = .bl k ∧ H = H4') ⟨rfl, rfl⟩).t x4 fun r H5 ⟨H5', x5, er, eH⟩ => ?_
    subst er; subst eH
    refine ⟨k, rfl, ?_⟩
    cases k with
    | false => exact iteF ⟨_, x5, q⟩
    | true =>
      refine iteT (((hc.ex e).we (Q := fun v H => v = z ∧ H = H5') ⟨rfl, rfl⟩).t x5 fun s H6 ⟨H6', x6, es, eH⟩ => ?_)
      subst es; subst eH
      exact ((ho'.ex e).wo q).t x6 fun _ _ q => q
theorem et_chain {op op' : CmpOp} (ha : EV X a σ H x) (hb : EV X b σ H y) (ho : EO X (compareOp op) x y H (.bl k)) (hc : EV X c σ H z) (ho' : EO X (compareOp op') y z H (.bl l)) (hm : lastMarks [op, op'] [b, c] = false := by with_unfolding_all rfl) : ET X (.Compare a [op, op'] [b, c] pos) σ H (k && l) := fun H1 e Q q =>
  .of (pt_chain op_W op_W pe_W pe_W pe_W hm) fun H2 e2 => ((ha.ex e).we (Q := fun v H => v = x ∧ H = H1) ⟨rfl, rfl⟩).t e2 fun v H3 ⟨H3', x3, ev, eH⟩ => by
    subst ev; subst eH
    refine ((hb.ex e).we (Q := fun v H => v = y ∧ H = H3') ⟨rfl, rfl⟩).t x3 fun u H4 ⟨H4', x4, eu, eH⟩ => ?_
    subst eu; subst eH
    refine ((ho.ex e).wo (Q := fun v H => v = .bl k ∧ H = H4') ⟨rfl, rfl⟩).t x4 fun r H5 ⟨H5', x5, er, eH⟩ => ?_
    subst er; subst eH
    refine ⟨k, rfl, ?_⟩
    cases k with
    | false => exact iteF ⟨false, rfl, _, x5, q⟩
    | true =>
      refine iteT (((hc.ex e).we (Q := fun v H => v = z ∧ H = H5') ⟨rfl, rfl⟩).t x5 fun s H6 ⟨H6', x6, es, eH⟩ => ?_)
      subst es; subst eH
      exact ((ho'.ex e).wo (Q := fun v H => v = .bl l ∧ Q (true && l) H) ⟨rfl, q⟩).t x6 fun _ _ ⟨H7, x7, ez, q⟩ => ⟨l, ez, H7, x7, q⟩

/-! ## and, or, not, tests -/
theorem wt_val (h : WE X e σ H fun x H1 => ∃ k, x = .bl k ∧ QB k H1) (he : ∀ whole, isTrue e X.env whole = (do let v ← whole; standAt e.pos; holding [v] (truthy v)) := by intro _; rfl) : WT X e σ H QB :=
  .of (pt_val pe_W he) fun H1 x => h.t x fun v H2 ⟨H3, x3, k, e, q⟩ => ⟨k, e, H3, x3, q⟩
theorem et_val (h : EV X e σ H (.bl k)) (he : ∀ whole, isTrue e X.env whole = (do let v ← whole; standAt e.pos; holding [v] (truthy v)) := by intro _; rfl) : ET X e σ H k := fun H1 x Q q => wt_val ((h.ex x).we ⟨k, rfl, q⟩) he
/-- a value's truth, known from below -/
def TruE (K : PySem.W.Frag) (x : V) (H : Hp) (k : Bool) : Prop := ∀ H1, Ex H H1 → TruV K x H1 k
theorem et_truth (h : EV X e σ H x) (ht : TruE X.K x H k) (he : ∀ whole, isTrue e X.env whole = (do let v ← whole; standAt e.pos; holding [v] (truthy v)) := by intro _; rfl) : ET X e σ H k := fun H1 x Q q =>
  .of (pt_truth pe_W he) fun H2 x2 => ((h.ex x).we (Q := fun v H => v = _ ∧ H = H1) ⟨rfl, rfl⟩).t x2 fun v H3 ⟨H3', x3, ev, eH⟩ => by
    subst ev; subst eH
    exact ⟨k, ht _ (x.trans x3), _, x3, q⟩
theorem ww_and1 (h : WT X a σ H QB) : WW X (.BoolOp .And [a] pos) σ H QB := .of (pw_and1 pt_W) fun H1 x => h.t x fun _ _ q => q
theorem ww_or1 (h : WT X a σ H QB) : WW X (.BoolOp .Or [a] pos) σ H QB := .of (pw_or1 pt_W) fun H1 x => h.t x fun _ _ q => q
theorem ww_and (h : WT X a σ H fun k H1 => if k = true then WW X (.BoolOp .And (b :: rest) pos) σ H1 QB else QB false H1) : WW X (.BoolOp .And (a :: b :: rest) pos) σ H QB :=
  .of (pw_and pt_W pw_W) fun H1 x => h.t x fun k H2 ⟨H3, x3, q⟩ => by
    cases k with
    | true => exact iteT (WW.t (by simpa using q) x3 fun _ _ q => q)
    | false => exact iteF ⟨H3, x3, by simpa using q⟩
theorem ww_or (h : WT X a σ H fun k H1 => if k = true then QB true H1 else WW X (.BoolOp .Or (b :: rest) pos) σ H1 QB) : WW X (.BoolOp .Or (a :: b :: rest) pos) σ H QB :=
  .of (pw_or pt_W pw_W) fun H1 x => h.t x fun k H2 ⟨H3, x3, q⟩ => by
    cases k with
    | true => exact iteT ⟨H3, x3, by simpa using q⟩
    | false => exact iteF (WW.t (by simpa using q) x3 fun _ _ q => q)
theorem wt_ww (h : WW X e σ H QB) : WT X e σ H QB := fun H1 x pins s I => h H1 x _ pins s I
theorem et_ew (h : EW X e σ H k) : ET X e σ H k := fun H1 x Q q => wt_ww (h H1 x Q q)
theorem ew_and1 (h : ET X a σ H k) : EW X (.BoolOp .And [a] pos) σ H k := fun H1 x Q q => ww_and1 ((h.ex x).wt q)
theorem ew_or1 (h : ET X a σ H k) : EW X (.BoolOp .Or [a] pos) σ H k := fun H1 x Q q => ww_or1 ((h.ex x).wt q)
theorem ew_and (ha : ET X a σ H k) (hb : k = true → EW X (.BoolOp .And (b :: rest) pos) σ H l) : EW X (.BoolOp .And (a :: b :: rest) pos) σ H (k && l) := fun H1 x Q q => ww_and ((ha.ex x).wt (by
  cases k with
  | true => exact iteT ((hb rfl) H1 x Q q)
  | false => exact iteF q))
theorem ew_or (ha : ET X a σ H k) (hb : k = false → EW X (.BoolOp .Or (b :: rest) pos) σ H l) : EW X (.BoolOp .Or (a :: b :: rest) pos) σ H (k || l) := fun H1 x Q q => ww_or ((ha.ex x).wt (by
  cases k with
  | true => exact iteT q
  | false => exact iteF ((hb rfl) H1 x Q q)))
theorem et_not (h : ET X a σ H k) : ET X (.UnaryOp .Not a pos) σ H (!k) := fun H1 x Q q =>
  .of (pt_not pt_W) fun H2 x2 => ((h.ex x).wt (QB := fun v H => Q (!v) H) q).t x2 fun _ _ q => q
theorem wt_not (h : WT X a σ H fun k H1 => QB (!k) H1) : WT X (.UnaryOp .Not a pos) σ H QB := .of (pt_not pt_W) fun H2 x2 => h.t x2 fun _ _ q => q
/-- as values (bools) -/
theorem we_one {op} (h : WE X a σ H Q) : WE X (.BoolOp op [a] pos) σ H Q := .of (pe_one pe_W) fun H1 x => h.t x fun _ _ q => q
theorem we_andV (h : WE X a σ H fun x H1 => ∃ k, x = .bl k ∧ if k = true then WE X (.BoolOp .And (b :: rest) pos) σ H1 Q else Q (.bl false) H1) : WE X (.BoolOp .And (a :: b :: rest) pos) σ H Q :=
  .of (pe_and pe_W pe_W) fun H1 x => h.t x fun v H2 ⟨H3, x3, k, e, q⟩ => ⟨k, e, by
    cases k with
    | true => exact iteT (WE.t (by simpa using q) x3 fun _ _ q => q)
    | false => exact iteF ⟨H3, x3, by simpa using q⟩⟩
theorem we_orV (h : WE X a σ H fun x H1 => ∃ k, x = .bl k ∧ if k = true then Q (.bl true) H1 else WE X (.BoolOp .Or (b :: rest) pos) σ H1 Q) : WE X (.BoolOp .Or (a :: b :: rest) pos) σ H Q :=
  .of (pe_or pe_W pe_W) fun H1 x => h.t x fun v H2 ⟨H3, x3, k, e, q⟩ => ⟨k, e, by
    cases k with
    | true => exact iteT ⟨H3, x3, by simpa using q⟩
    | false => exact iteF (WE.t (by simpa using q) x3 fun _ _ q => q)⟩
theorem ev_one {op} (h : EV X a σ H v) : EV X (.BoolOp op [a] pos) σ H v := fun H1 x Q q => we_one ((h.ex x).we q)
theorem ev_andV (ha : EV X a σ H (.bl k)) (hb : k = true → EV X (.BoolOp .And (b :: rest) pos) σ H (.bl l)) : EV X (.BoolOp .And (a :: b :: rest) pos) σ H (.bl (k && l)) := fun H1 x Q q => we_andV ((ha.ex x).we ⟨k, rfl, by
  cases k with
  | true => exact iteT ((hb rfl) H1 x Q q)
  | false => exact iteF q⟩)
theorem ev_orV (ha : EV X a σ H (.bl k)) (hb : k = false → EV X (.BoolOp .Or (b :: rest) pos) σ H (.bl l)) : EV X (.BoolOp .Or (a :: b :: rest) pos) σ H (.bl (k || l)) := fun H1 x Q q => we_orV ((ha.ex x).we ⟨k, rfl, by
  cases k with
  | true => exact iteT q
  | false => exact iteF ((hb rfl) H1 x Q q)⟩)
theorem ev_notV (ha : EV X a σ H (.bl k)) : EV X (.UnaryOp .Not a pos) σ H (.bl (!k)) := fun H1 x Q q =>
  .of (pe_not pe_W) fun H2 x2 => ((ha.ex x).we (Q := fun v H => v = .bl k ∧ Q (.bl (!k)) H) ⟨rfl, q⟩).t x2 fun v H3 ⟨H4, x4, e, q⟩ => ⟨k, e, H4, x4, q⟩
theorem we_if (h : WT X c σ H fun k H1 => if k = true then WE X a σ H1 Q else WE X b σ H1 Q) : WE X (.IfExp c a b pos) σ H Q :=
  .of (pe_ifExp pt_W pe_W pe_W) fun H1 x => h.t x fun k H2 ⟨H3, x3, q⟩ => by
    cases k with
    | true => exact iteT (WE.t (by simpa using q) x3 fun _ _ q => q)
    | false => exact iteF (WE.t (by simpa using q) x3 fun _ _ q => q)
theorem ev_if (hc : ET X c σ H k) (ha : k = true → EV X a σ H v) (hb : k = false → EV X b σ H v) : EV X (.IfExp c a b pos) σ H v := fun H1 x Q q => we_if ((hc.ex x).wt (by
  cases k with
  | true => exact iteT ((ha rfl) H1 x Q q)
  | false => exact iteF ((hb rfl) H1 x Q q)))
theorem ev_if2 (hc : ET X c σ H k) (ha : k = true → EV X a σ H v) (hb : k = false → EV X b σ H w) : EV X (.IfExp c a b pos) σ H (if k = true then v else w) := ev_if hc (fun h => by subst h; exact ha rfl) (fun h => by subst h; exact hb rfl)

/-! ## lists of arguments, displays -/
theorem wa_nil (q : QA [] H) : WA X [] σ H QA := .of pa_nil fun H1 x => ⟨H, x, q⟩
theorem wa_cons (h : WE X e σ H fun x H1 => WA X es σ H1 fun xs H2 => QA (x :: xs) H2) (hs : starEach (e :: es) X.env = (false, eval e X.env) :: starEach es X.env := by rfl) : WA X (e :: es) σ H QA :=
  .of (pa_cons pe_W pa_W hs) fun H1 x => h.t x fun v H2 ⟨H3, x3, w⟩ => w.t x3 fun _ _ q => q
theorem ea_nil : EA X [] σ H [] := fun H1 x Q q => wa_nil q
theorem ea_cons (h : EV X e σ H v) (hr : EA X es σ H vs) (hs : starEach (e :: es) X.env = (false, eval e X.env) :: starEach es X.env := by rfl) : EA X (e :: es) σ H (v :: vs) := fun H1 x Q q => wa_cons ((h.ex x).we ((hr.ex x).wa q)) hs
theorem we_tup {x1} (h : WA X es σ H fun xs H1 => xs.length ≤ sizeLine ∧ ∀ p, H1 p = none → Q (.ref p) (upd H1 p (.tup xs))) : WE X (.Tuple es x1 pos) σ H Q :=
  .of (pe_tup pa_W) fun H1 x => h.t x fun xs H2 ⟨H3, x3, hz, k⟩ => ⟨hz, fun p hp => ⟨_, x3.set p _, k p (x3.free hp)⟩⟩
theorem we_lst (h : WA X es σ H fun xs H1 => xs.length ≤ sizeLine ∧ ∀ p, H1 p = none → Q (.ref p) (upd H1 p (.lst xs))) : WE X (.List es pos) σ H Q :=
  .of (pe_lst pa_W) fun H1 x => h.t x fun xs H2 ⟨H3, x3, hz, k⟩ => ⟨hz, fun p hp => ⟨_, x3.set p _, k p (x3.free hp)⟩⟩
theorem small {n : Nat} (h : n ≤ 100000) : n ≤ sizeLine := Nat.le_trans h (by decide)
theorem en_tup {x1} (h : EA X es σ H vs) (hz : vs.length ≤ 100000) : EN X (.Tuple es x1 pos) σ H (.tup vs) := fun H1 x Q q => we_tup ((h.ex x).wa ⟨small hz, q⟩)
theorem en_lst (h : EA X es σ H vs) (hz : vs.length ≤ 100000) : EN X (.List es pos) σ H (.lst vs) := fun H1 x Q q => we_lst ((h.ex x).wa ⟨small hz, q⟩)
theorem en_dict0 : EN X (.Dict [] [] pos) σ H (.dK []) := fun H1 x Q q => .of pe_dnewK fun H2 x2 p hp => ⟨_, x2.set p _, q p (x2.free hp)⟩
/-- a new object as an operand, dropped behind -/
theorem ev_binN {op : Operator} {o : HO} (ha : EV X a σ H x) (hb : EN X b σ H o) (ho : ∀ p H1, Ex H H1 → H1 p = some o → EO X (binaryOp op) x (.ref p) H1 z) : EV X (.BinOp a op b pos) σ H z := fun H1 e Q q =>
  (we_bin ((ha.ex e).we ((hb.ex e).we fun p hp => (ho p _ (e.new hp) upd_same).wo ⟨H1, Ex.put hp, q⟩))).forget
theorem ev_cmpN {op : CmpOp} {o : HO} (ha : EV X a σ H x) (hb : EN X b σ H o) (ho : ∀ p H1, Ex H H1 → H1 p = some o → EO X (compareOp op) x (.ref p) H1 z) (hm : behindInMarks op b = false := by first | exact nomark _ | with_unfolding_all rfl) : EV X (.Compare a [op] [b] pos) σ H z := fun H1 e Q q =>
  (we_cmp ((ha.ex e).we ((hb.ex e).we fun p hp => (ho p _ (e.new hp) upd_same).wo ⟨H1, Ex.put hp, q⟩)) hm).forget

/-! ## subscripts -/
theorem we_ix {r : R2} (hr : IxR X r) (h : WE X a σ H fun x H1 => WE X b σ H1 fun y H2 => ∀ H3, Ex H2 H3 → r x y H3 (up Q)) (hs : PlainIx b := by intro _ _; rfl) : WE X (.Subscript a b pos) σ H Q :=
  .of (pe_ix hr pe_W pe_W hs) fun H1 x => h.t x fun v H2 ⟨H3, x3, w⟩ => w.t x3 fun u H4 ⟨H5, x5, o⟩ => o H4 x5
theorem ev_ixL {p : Addr} {i : Int} (ha : EV X a σ H (.ref p)) (hb : EV X b σ H (.int i)) (h : SqL X.K H p xs) (hi : atI xs i = some v) (hs : PlainIx b := by intro _ _; rfl) : EV X (.Subscript a b pos) σ H v := fun H1 e Q q =>
  we_ix ix_list ((ha.ex e).we ((hb.ex e).we fun H3 e3 => ⟨p, xs, i, v, rfl, rfl, (e.trans e3).sqL h, hi, H1, e3, q⟩)) hs
theorem ev_ixT {p : Addr} {i : Int} (ha : EV X a σ H (.ref p)) (hb : EV X b σ H (.int i)) (h : SqT X.K H p xs) (hi : atI xs i = some v) (hs : PlainIx b := by intro _ _; rfl) : EV X (.Subscript a b pos) σ H v := fun H1 e Q q =>
  we_ix ix_tup ((ha.ex e).we ((hb.ex e).we fun H3 e3 => ⟨p, xs, i, v, rfl, rfl, (e.trans e3).sqT h, hi, H1, e3, q⟩)) hs
theorem ev_ixS {z : Str} {i : Int} {n : Nat} (ha : EV X a σ H (.str z)) (hb : EV X b σ H (.int i)) (hz : z.length ≤ sizeLine) (hi : atI z.cps.toList i = some n) (hs : PlainIx b := by intro _ _; rfl) : EV X (.Subscript a b pos) σ H (.str ⟨#[n]⟩) := fun H1 e Q q =>
  we_ix ix_str ((ha.ex e).we ((hb.ex e).we fun H3 e3 => ⟨z, i, n, rfl, rfl, hz, hi, H1, e3, q⟩)) hs
/-- an item of a display, dropped behind -/
theorem ev_ixN {i : Int} (ha : EN X a σ H (.lst xs)) (hb : EV X b σ H (.int i)) (hi : atI xs i = some v) (hs : PlainIx b := by intro _ _; rfl) : EV X (.Subscript a b pos) σ H v := fun H1 e Q q =>
  (we_ix (Q := fun v' H' => ∃ H'', Ex H'' H' ∧ Q v' H'') ix_list ((ha.ex e).we fun p hp => (hb.ex (e.new hp)).we fun H3 e3 => ⟨p, xs, i, v, rfl, rfl, .of (e3 p _ upd_same), hi, _, e3, H1, Ex.put hp, q⟩) hs).forget

/-! ## builtins called by name -/
theorem we_callB {id : String} {n : Str} (hm : X.mg n = none) (hv : bootBuiltins n = some (.builtin id)) (ha : WA X (e :: es) σ H fun vs H1 => WC X (.builtin id) vs H1 Q) (hg : Gl X n := by rfl) (hn : n ≠ "__name__" := by decide) (hdb : (n == ("__debug__" : Str)) = false := by decide)
    (he : starEach (e :: es) X.env = (false, eval e X.env) :: starEach es X.env := by rfl) (hpl : (backTo pos (starEach es X.env)).any (·.1) = false := by rfl) : WE X (.Call (.Name n p) (e :: es) [] pos) σ H Q :=
  .of (pe_callB call_W hg hm hv pa_W hn hdb he hpl) fun H1 x => ha.t x fun vs H2 ⟨H3, x3, w⟩ => w.t x3 fun _ _ q => q
theorem we_callTy {T : String} {n : Str} (hm : X.mg n = none) (hv : bootBuiltins n = some (.type T)) (ha : WA X (e :: es) σ H fun vs H1 => WC X (.type T) vs H1 Q) (hg : Gl X n := by rfl) (hn : n ≠ "__name__" := by decide) (hdb : (n == ("__debug__" : Str)) = false := by decide)
    (he : starEach (e :: es) X.env = (false, eval e X.env) :: starEach es X.env := by rfl) (hpl : (backTo pos (starEach es X.env)).any (·.1) = false := by rfl) : WE X (.Call (.Name n p) (e :: es) [] pos) σ H Q :=
  .of (pe_callTy call_W hg hm hv pa_W hn hdb he hpl) fun H1 x => ha.t x fun vs H2 ⟨H3, x3, w⟩ => w.t x3 fun _ _ q => q
theorem ev_callB {id : String} {n : Str} (hm : X.mg n = none) (hv : bootBuiltins n = some (.builtin id)) (ha : EA X (e :: es) σ H vs) (hc : EC X (.builtin id) vs H z) (hg : Gl X n := by rfl) (hn : n ≠ "__name__" := by decide) (hdb : (n == ("__debug__" : Str)) = false := by decide)
    (he : starEach (e :: es) X.env = (false, eval e X.env) :: starEach es X.env := by rfl) (hpl : (backTo pos (starEach es X.env)).any (·.1) = false := by rfl) : EV X (.Call (.Name n p) (e :: es) [] pos) σ H z := fun H1 x Q q =>
  we_callB hm hv ((ha.ex x).wa (hc H1 x Q q)) hg hn hdb he hpl
theorem ev_callTy {T : String} {n : Str} (hm : X.mg n = none) (hv : bootBuiltins n = some (.type T)) (ha : EA X (e :: es) σ H vs) (hc : EC X (.type T) vs H z) (hg : Gl X n := by rfl) (hn : n ≠ "__name__" := by decide) (hdb : (n == ("__debug__" : Str)) = false := by decide)
    (he : starEach (e :: es) X.env = (false, eval e X.env) :: starEach es X.env := by rfl) (hpl : (backTo pos (starEach es X.env)).any (·.1) = false := by rfl) : EV X (.Call (.Name n p) (e :: es) [] pos) σ H z := fun H1 x Q q =>
  we_callTy hm hv ((ha.ex x).wa (hc H1 x Q q)) hg hn hdb he hpl
theorem ec_of {r : List V → Hp → VK → Prop} (h : CallR X fn r) (q : ∀ H1, Ex H H1 → ∀ Q : VK, Q z H1 → r vs H1 Q) : EC X fn vs H z := fun H1 e Q k => .of h fun H2 e2 => q H2 (e.trans e2) _ ⟨H1, e2, k⟩
theorem cn_of {r : List V → Hp → VK → Prop} {o : HO} (h : CallR X fn r) (q : ∀ H1, Ex H H1 → ∀ Q : VK, (∀ p, H1 p = none → Q (.ref p) (upd H1 p o)) → r vs H1 Q) : CN X fn vs H o := fun H1 e Q k => .of h fun H2 e2 => q H2 (e.trans e2) _ fun p hp => ⟨_, e2.set p o, k p (e2.free hp)⟩
/-- a call as an argument: evaluated, a value -/
theorem ec_abs {i : Int} : EC X (.builtin "abs") [.int i] H (.int (if i < 0 then -i else i)) := ec_of call_abs fun _ _ _ q => ⟨i, rfl, q⟩
theorem ec_max {i j : Int} (hc : X.calm = true) : EC X (.builtin "max") [.int i, .int j] H (.int (if j > i then j else i)) := ec_of (call_max2 hc) fun _ _ _ q => ⟨i, j, rfl, q⟩
theorem ec_min {i j : Int} (hc : X.calm = true) : EC X (.builtin "min") [.int i, .int j] H (.int (if j < i then j else i)) := ec_of (call_min2 hc) fun _ _ _ q => ⟨i, j, rfl, q⟩
theorem ec_lenL {p : Addr} (h : SqL X.K H p xs) : EC X (.builtin "len") [.ref p] H (.int xs.length) := ec_of call_len_seq fun _ e _ q => ⟨p, xs, rfl, .inl (e.sqL h), q⟩
theorem ec_lenT {p : Addr} (h : SqT X.K H p xs) : EC X (.builtin "len") [.ref p] H (.int xs.length) := ec_of call_len_seq fun _ e _ q => ⟨p, xs, rfl, .inr (e.sqT h), q⟩
theorem ec_lenS {z : Str} (h : z.length ≤ sizeLine) : EC X (.builtin "len") [.str z] H (.int z.length) := ec_of call_len_str fun _ _ _ q => ⟨z, rfl, h, q⟩
theorem ec_lenD {p : Addr} {kvs : List (Key × V)} (h : H p = some (.dK kvs)) : EC X (.builtin "len") [.ref p] H (.int kvs.length) := ec_of call_lenD fun _ e _ q => ⟨p, kvs, rfl, e _ _ h, q⟩
theorem ec_sum {p : Addr} {ns : List Int} (h : SqL X.K H p (ns.map V.int)) (hc : X.calm = true) : EC X (.builtin "sum") [.ref p] H (.int ns.sum) := ec_of (cr_sum hc) fun _ e _ q => ⟨p, ns, rfl, e.sqL h, q⟩
theorem ec_all {p : Addr} {ns : List Bool} (h : SqL X.K H p (ns.map V.bl)) (hc : X.calm = true) : EC X (.builtin "all") [.ref p] H (.bl (ns.all id)) := ec_of (cr_all hc) fun _ e _ q => ⟨p, ns, rfl, e.sqL h, q⟩
theorem ec_any {p : Addr} {ns : List Bool} (h : SqL X.K H p (ns.map V.bl)) (hc : X.calm = true) : EC X (.builtin "any") [.ref p] H (.bl (ns.any id)) := ec_of (cr_any hc) fun _ e _ q => ⟨p, ns, rfl, e.sqL h, q⟩
theorem cn_divmod {i j : Int} (h : CDivP i j) : CN X (.builtin "divmod") [.int i, .int j] H (.tup [.int (i / j), .int (i % j)]) := cn_of call_divmodW fun _ _ _ q => ⟨i, j, rfl, h, q⟩
theorem cn_listL {p : Addr} (h : SqL X.K H p xs) : CN X (.type "list") [.ref p] H (.lst xs) := cn_of call_list_of fun _ e _ q => ⟨p, xs, rfl, .inl (e.sqL h), q⟩
theorem cn_listT {p : Addr} (h : SqT X.K H p xs) : CN X (.type "list") [.ref p] H (.lst xs) := cn_of call_list_of fun _ e _ q => ⟨p, xs, rfl, .inr (e.sqT h), q⟩
theorem cn_tupleL {p : Addr} (h : SqL X.K H p xs) : CN X (.type "tuple") [.ref p] H (.tup xs) := cn_of call_tuple_of fun _ e _ q => ⟨p, xs, rfl, .inl ⟨e.sqL h, q⟩⟩
theorem ec_tupleT {p : Addr} (h : SqT X.K H p xs) : EC X (.type "tuple") [.ref p] H (.ref p) := ec_of call_tuple_of fun _ e _ q => ⟨p, xs, rfl, .inr ⟨e.sqT h, q⟩⟩
theorem en_callB {id : String} {n : Str} {o : HO} (hm : X.mg n = none) (hv : bootBuiltins n = some (.builtin id)) (ha : EA X (e :: es) σ H vs) (hc : CN X (.builtin id) vs H o) (hg : Gl X n := by rfl) (hn : n ≠ "__name__" := by decide) (hdb : (n == ("__debug__" : Str)) = false := by decide)
    (he : starEach (e :: es) X.env = (false, eval e X.env) :: starEach es X.env := by rfl) (hpl : (backTo pos (starEach es X.env)).any (·.1) = false := by rfl) : EN X (.Call (.Name n p) (e :: es) [] pos) σ H o := fun H1 x Q q =>
  we_callB hm hv ((ha.ex x).wa (hc H1 x Q q)) hg hn hdb he hpl
theorem en_callTy {id : String} {n : Str} {o : HO} (hm : X.mg n = none) (hv : bootBuiltins n = some (.type id)) (ha : EA X (e :: es) σ H vs) (hc : CN X (.type id) vs H o) (hg : Gl X n := by rfl) (hn : n ≠ "__name__" := by decide) (hdb : (n == ("__debug__" : Str)) = false := by decide)
    (he : starEach (e :: es) X.env = (false, eval e X.env) :: starEach es X.env := by rfl) (hpl : (backTo pos (starEach es X.env)).any (·.1) = false := by rfl) : EN X (.Call (.Name n p) (e :: es) [] pos) σ H o := fun H1 x Q q =>
  we_callTy hm hv ((ha.ex x).wa (hc H1 x Q q)) hg hn hdb he hpl
/-- n.bit_length() -/
theorem ev_bits {i : Int} {apos : Pos} (ho : EV X a σ H (.int i)) (hbase : attributeBase a "bit_length" X.env (eval a X.env) = eval a X.env := by rfl) (hline : (apos.endLine == pos.line) = true := by rfl) : EV X (.Call (.Attribute a "bit_length" apos) [] [] pos) σ H (.int (Builtin.Int.intBits i : Nat)) := fun H1 x Q q =>
  .of (pe_bits pe_W hbase hline) fun H2 x2 => ((ho.ex x).we (Q := fun v H => v = .int i ∧ Q (.int (Builtin.Int.intBits i : Nat)) H) ⟨rfl, q⟩).t x2 fun v H3 ⟨H4, x4, e, q⟩ => ⟨i, e, H4, x4, q⟩
end
/-- what the code around wishes of an exception; it grows with the heap -/
structure Tk (X : Cx) (W : WX) : Prop where
  tk : Takes X W
  up : ∀ c d σ H H', W c d σ H → Ex H H' → W c d σ H'
  own : PassesOwn (model X.prog X.w) X.A X.env X.xe
section
variable {X : Cx} {W : WX} {e a b c tg iter : Expr} {es rest tgs : List Expr} {st : Stmt} {sts body : List Stmt} {σ : St} {H H1 H' : Hp} {Q Q1 : VK} {QB QB1 : Bool → Hp → Prop} {QA QA1 : List V → Hp → Prop} {D : Ends} {x y z v w : V} {pos p pos' : Pos} {f : Value → Value → Sem Value} {fn : Value} {xs vs : List V} {k l : Bool} {R R1 : St → Hp → Prop}

/-! ## blocks, small statements -/
theorem wss_nil (q : D.nx σ H) : WSs X [] D σ H := .of pss_nil fun H1 x => ⟨H, x, q⟩
theorem wss_cons (h : WS X st { D with nx := fun σ' H' => WSs X sts D σ' H' } σ H) : WSs X (st :: sts) D σ H :=
  .of (pss_cons ps_W pss_W) fun H1 x => ⟨H, _, x, h, ⟨fun σ' H2 ⟨H3, x3, w⟩ => ⟨H3, D, x3, w, EndsLe.rfl⟩, fun _ _ q => q, fun _ _ q => q, fun _ _ q => q⟩⟩
theorem wss_one (h : WS X st D σ H) : WSs X [st] D σ H := .of (pss_one ps_W) fun H1 x => ⟨H, D, x, h, EndsLe.rfl⟩
theorem ws_pass (q : D.nx σ H) : WS X (.Pass pos) D σ H := .of ps_pass fun H1 x => ⟨H, x, q⟩
theorem ws_break (q : D.bk σ H) : WS X (.Break pos) D σ H := .of ps_break fun H1 x => ⟨H, x, q⟩
theorem ws_continue (q : D.ct σ H) : WS X (.Continue pos) D σ H := .of ps_continue fun H1 x => ⟨H, x, q⟩
theorem ws_doc {t j} (q : D.nx σ H) : WS X (.Expr (.Constant (.str t) j pos) pos') D σ H := .of ps_doc fun H1 x => ⟨H, x, q⟩
theorem ws_expr (h : WE X e σ H fun _ H1 => D.nx σ H1) (hs : swapsWith e none pos.line X.env = pure false := by rfl) : WS X (.Expr e pos) D σ H :=
  .of (ps_expr pe_W hs) fun H1 x => h.t x fun _ _ q => q
theorem ws_ret (h : WE X e σ H D.rt) : WS X (.Return (some e) pos) D σ H := .of (ps_ret pe_W) fun H1 x => h.t x fun _ _ q => q
theorem ws_retN (q : D.rt .non H) : WS X (.Return none pos) D σ H := .of ps_retN fun H1 x => ⟨H, x, q⟩
theorem ws_if (h : WT X c σ H fun k H1 => if k = true then WSs X sts D σ H1 else WSs X body D σ H1) : WS X (.If c sts body pos) D σ H :=
  .of (ps_if pt_W pss_W pss_W) fun H1 x => h.t x fun k H2 ⟨H3, x3, q⟩ => by
    cases k with
    | true => exact iteT ⟨H3, D, x3, by simpa using q, EndsLe.rfl⟩
    | false => exact iteF ⟨H3, D, x3, by simpa using q, EndsLe.rfl⟩
theorem ws_ifE (h : ET X c σ H k) (h1 : k = true → WSs X sts D σ H) (h2 : k = false → WSs X body D σ H) : WS X (.If c sts body pos) D σ H := ws_if (h.wt (by
  cases k with
  | true => exact iteT (h1 rfl)
  | false => exact iteF (h2 rfl)))
theorem WS.le {D1 : Ends} (w : WS X st D σ H) (k : EndsLe D (upD D1)) : WS X st D1 σ H := fun H1 x pins s I => thn (w H1 x pins s I) fun u s' q => SP.le k q
/-- the ways of an if meet at M -/
theorem wss_cut (M : St → Hp → Prop) (h : WS X st { D with nx := M } σ H) (k : ∀ σ' H', M σ' H' → WSs X sts D σ' H') : WSs X (st :: sts) D σ H :=
  wss_cons (WS.le h (.i (fun _ _ m => k _ _ m) (fun _ _ q => q) (fun _ _ q => q) fun _ _ q => q))

/-! ## targets -/
def WG (X : Cx) (tg : Expr) (v : V) (σ : St) (H : Hp) (R : St → Hp → Prop) : Prop :=
  ∀ H1, Ex H H1 → ∀ pins s u, Inv X pins σ H1 s → RelV v u → wpAny (model X.prog X.w) X.A (assign tg X.env u) (fun _ s' => ∃ σ' H', Inv X pins σ' H' s' ∧ upS R σ' H') X.xe s
def tWG (X : Cx) (tg : Expr) : TG := fun v σ H1 R1 => ∃ H R, Ex H H1 ∧ WG X tg v σ H R ∧ ∀ σ' H2, upS R σ' H2 → R1 σ' H2
theorem pg_W : PG X tg (tWG X tg) := ⟨fun pins s σ H1 v u R1 I r ⟨H, R, x, w, k⟩ => thn (w H1 x pins s u I r) fun _ s' ⟨σ', H2, I2, q⟩ => ⟨σ', H2, I2, k _ _ q⟩⟩
theorem WG.of {t : TG} (h : PG X tg t) (q : ∀ H1, Ex H H1 → t v σ H1 (upS R)) : WG X tg v σ H R := fun H1 x pins s u I r => h.run pins s σ H1 v u _ I r (q H1 x)
theorem WG.t (w : WG X tg v σ H R) (x : Ex H H1) (k : ∀ σ' H2, upS R σ' H2 → R1 σ' H2) : tWG X tg v σ H1 R1 := ⟨H, R, x, w, k⟩
theorem wg_name {i : Nat} {n : Str} (hN : X.N.Nodup) (hi : X.N[i]? = some n) (q : R (σ.set i (some v)) H) (hx : Loc X.env.scope n := by first | exact .inl rfl | exact .inr rfl) (hf : X.fn n = true ∨ X.env.scope.names.lookup n = some .local := by first | exact .inl rfl | exact .inr rfl | assumption) : WG X (.Name n pos) v σ H R :=
  .of (pg_name hN hi hx hf) fun H1 x => ⟨H, x, q⟩
/-- several, from the left -/
def WGs (X : Cx) (ts : List Expr) (vs : List V) (σ : St) (H : Hp) (R : St → Hp → Prop) : Prop :=
  ∀ H1, Ex H H1 → ∀ pins s us, Inv X pins σ H1 s → Vals vs us → wpAny (model X.prog X.w) X.A (assignInOrder ((assignEach ts X.env).map (·.2)) us) (fun _ s' => ∃ σ' H', Inv X pins σ' H' s' ∧ upS R σ' H') X.xe s
def tWGs (X : Cx) (ts : List Expr) : TGs := fun vs σ H1 R1 => ∃ H R, Ex H H1 ∧ WGs X ts vs σ H R ∧ ∀ σ' H2, upS R σ' H2 → R1 σ' H2
theorem pgs_W : PGs X tgs (tWGs X tgs) := ⟨fun pins s σ H1 vs us R1 I r ⟨H, R, x, w, k⟩ => thn (w H1 x pins s us I r) fun _ s' ⟨σ', H2, I2, q⟩ => ⟨σ', H2, I2, k _ _ q⟩⟩
theorem WGs.of {t : TGs} (h : PGs X tgs t) (q : ∀ H1, Ex H H1 → t vs σ H1 (upS R)) : WGs X tgs vs σ H R := fun H1 x pins s us I r => h.run pins s σ H1 vs us _ I r (q H1 x)
theorem wgs_nil (q : R σ H) : WGs X [] [] σ H R := .of pgs_nil fun H1 x => ⟨rfl, H, x, q⟩
theorem wgs_cons (h : WG X tg v σ H fun σ' H' => WGs X tgs vs σ' H' R) (hs : (assignEach (tg :: tgs) X.env).map (·.2) = assign tg X.env :: (assignEach tgs X.env).map (·.2) := by rfl) : WGs X (tg :: tgs) (v :: vs) σ H R :=
  .of (pgs_cons pg_W pgs_W hs) fun H1 x => ⟨v, vs, rfl, h.t x fun σ' H2 ⟨H3, x3, w⟩ => ⟨H3, R, x3, w, fun _ _ q => q⟩⟩
theorem wg_tup {t : Addr} {i : Nat} (hs : SqT X.K H t vs) (h : WGs X tgs vs σ H R) (hc : X.calm = true := by rfl) (hn : (assignEach tgs X.env).length = vs.length := by rfl) (hst : (assignEach tgs X.env).findIdx? (·.1) = none := by rfl) : WG X (.Tuple tgs i pos) (.ref t) σ H R :=
  .of (pg_tup (n := vs.length) hc pgs_W hn hst) fun H1 x => ⟨t, vs, rfl, x.sqT hs, rfl, H, R, x, h, fun _ _ q => q⟩
theorem wg_lst {t : Addr} {i : Nat} (hs : SqL X.K H t vs) (h : WGs X tgs vs σ H R) (hc : X.calm = true := by rfl) (hn : (assignEach tgs X.env).length = vs.length := by rfl) (hst : (assignEach tgs X.env).findIdx? (·.1) = none := by rfl) : WG X (.Tuple tgs i pos) (.ref t) σ H R :=
  .of (pg_lst (n := vs.length) hc pgs_W hn hst) fun H1 x => ⟨t, vs, rfl, x.sqL hs, rfl, H, R, x, h, fun _ _ q => q⟩
/-- o[i] = v of a list -/
theorem wg_ixL {q : Addr} {i : Int} {j : Nat} (ho : EV X a σ H (.ref q)) (hi : EV X b σ H (.int i)) (hl : H q = some (.lst xs)) (hj : ixN xs.length i = some j) (h : R σ (upd H q (.lst (xs.set j v))))
    (ha : ∀ v, assign (.Subscript a b pos) X.env v = (do
      let ov ← holding [v] (eval a X.env)
      let iv ← holding [v, ov] (eval b X.env)
      standAt pos
      holding [v, ov, iv] (setItem ov iv v)
      release [v, ov, iv] []) := by intro _; rfl) : WG X (.Subscript a b pos) v σ H R :=
  .of (pg_sub pe_W pe_W set_list ha) fun H1 x => (ho.we (Q := fun v H' => v = .ref q ∧ H' = H) ⟨rfl, rfl⟩).t x fun o H2 ⟨H2', x2, eo, eH⟩ => by
    subst eo; subst eH
    refine (hi.we (Q := fun v H'' => v = .int i ∧ H'' = H2') ⟨rfl, rfl⟩).t x2 fun o H3 ⟨H3', x3, eo, eH⟩ => ?_
    subst eo; subst eH
    exact ⟨q, xs, i, j, rfl, rfl, x3 _ _ hl, hj, _, x3.set q _, h⟩
/-- o[i] = v of a dict -/
theorem wg_ixD {q : Addr} {kx : Key} {kvs : List (Key × V)} (hu : X.A.units + 1 < cLine) (ho : EV X a σ H (.ref q)) (hi : EV X b σ H (kV kx)) (hl : H q = some (.dK kvs)) (hz : kvs.length < 100000) (h : R σ (upd H q (.dK (putK kvs kx v))))
    (ha : ∀ v, assign (.Subscript a b pos) X.env v = (do
      let ov ← holding [v] (eval a X.env)
      let iv ← holding [v, ov] (eval b X.env)
      standAt pos
      holding [v, ov, iv] (setItem ov iv v)
      release [v, ov, iv] []) := by intro _; rfl) : WG X (.Subscript a b pos) v σ H R :=
  .of (pg_sub pe_W pe_W (set_dict hu) ha) fun H1 x => (ho.we (Q := fun v H' => v = .ref q ∧ H' = H) ⟨rfl, rfl⟩).t x fun o H2 ⟨H2', x2, eo, eH⟩ => by
    subst eo; subst eH
    refine (hi.we (Q := fun v H'' => v = kV kx ∧ H'' = H2') ⟨rfl, rfl⟩).t x2 fun o H3 ⟨H3', x3, eo, eH⟩ => ?_
    subst eo; subst eH
    exact ⟨q, _, rfl, DPut.k (k := kx) (x3 _ _ hl) (Nat.lt_of_lt_of_le hz (by decide)), _, x3.set q _, h⟩

/-! ## assignments -/
theorem ws_set {i : Nat} {n : Str} (hN : X.N.Nodup) (hi : X.N[i]? = some n) (h : WE X e σ H fun x H1 => D.nx (σ.set i (some x)) H1) (hx : Loc X.env.scope n := by first | exact .inl rfl | exact .inr rfl) (hs : swapsWith e (some (.Name n pos')) pos.line X.env = pure false := by rfl)
    (hf : X.fn n = true ∨ X.env.scope.names.lookup n = some .local := by first | exact .inl rfl | exact .inr rfl | assumption) : WS X (.Assign [.Name n pos'] e pos) D σ H :=
  .of (ps_set hN hi hx pe_W hs hf) fun H1 x => h.t x fun _ _ q => q
theorem ws_asg (h : WE X e σ H fun x H1 => WG X tg x σ H1 D.nx) (hs : swapsWithSole [tg] e pos.line X.env = pure false := by rfl) (hw : swappedStores [tg] e X.env = pure none := by rfl)
    (h1 : (assignEach [tg] X.env).map (·.2) = [assign tg X.env] := by rfl) : WS X (.Assign [tg] e pos) D σ H :=
  .of (ps_asg pe_W pg_W hs hw h1) fun H1 x => h.t x fun v H2 ⟨H3, x3, w⟩ => w.t x3 fun _ _ q => q
def IP (X : Cx) (op : Operator) (x y : V) (H : Hp) (z : V) : Prop := EO X (inplaceOp op) x y H z
theorem ws_aug {i : Nat} {n : Str} {op : Operator} (hN : X.N.Nodup) (hi : X.N[i]? = some n) (hx : σ[i]? = some (some x)) (h : WE X e σ H fun y H1 => WO X (inplaceOp op) x y H1 fun z H2 => D.nx (σ.set i (some z)) H2) (hl : Loc X.env.scope n := by first | exact .inl rfl | exact .inr rfl)
    (hf : X.fn n = true ∨ X.env.scope.names.lookup n = some .local := by first | exact .inl rfl | exact .inr rfl | assumption) : WS X (.AugAssign (.Name n pos') op e pos) D σ H :=
  .of (ps_aug hN hi hl pe_W (fun pins s σ H x y v u Q I rx ry q => op_W pins s σ H x y v u Q I rx ry q) hf) fun H1 e1 => ⟨x, hx, h.t e1 fun y H2 ⟨H3, x3, w⟩ => w.t x3 fun _ _ q => q⟩
section
variable {i j : Int}
theorem ip_add : EO X (inplaceOp .Add) (.int i) (.int j) H (.int (i + j)) := eo_of iop_add fun _ _ _ q => ⟨i, j, rfl, rfl, q⟩
theorem ip_sub : EO X (inplaceOp .Sub) (.int i) (.int j) H (.int (i - j)) := eo_of iop_sub fun _ _ _ q => ⟨i, j, rfl, rfl, q⟩
theorem ip_mul (h : CMul i j) : EO X (inplaceOp .Mult) (.int i) (.int j) H (.int (i * j)) := eo_of iop_mul fun _ _ _ q => ⟨i, j, rfl, rfl, h, q⟩
theorem ip_shr (h : 0 ≤ j) : EO X (inplaceOp .RShift) (.int i) (.int j) H (.int (i / 2 ^ j.toNat)) := eo_of iop_shr fun _ _ _ q => ⟨i, j, rfl, rfl, h, q⟩
end

/-! ## loops -/
/-- while, by an invariant with its measure -/
theorem ws_while (tk : Tk X W) (Pv : Nat → St → Hp → Prop) (m : Nat) (h0 : Pv m σ H)
    (hs : ∀ m σ' H', Pv m σ' H' → WT X c σ' H' fun k H2 => if k = true then WSs X body { D with nx := fun σ3 H3 => ∃ m', m' < m ∧ Pv m' σ3 H3, ct := fun σ3 H3 => ∃ m', m' < m ∧ Pv m' σ3 H3, bk := D.nx } σ' H2 else D.nx σ' H2) : WS X (.While c body [] pos) D σ H :=
  .of (ps_while tk.own pt_W pss_W) fun H1 x => ⟨fun m => upS (Pv m), ⟨m, H, x, h0⟩, fun m σ' H2 ⟨H3, x3, p⟩ => (hs m σ' H3 p).t x3 fun k H4 ⟨H5, x5, q⟩ => by
    cases k with
    | true =>
      rw [if_pos rfl] at q
      exact iteT ⟨fun σ6 H6 => ∃ m', m' < m ∧ upS (Pv m') σ6 H6, fun _ _ n => n, H5, _, x5, q, ⟨fun _ _ ⟨H7, x7, m', l, p⟩ => ⟨m', l, H7, x7, p⟩, fun _ _ q => q, fun _ _ q => q, fun _ _ ⟨H7, x7, m', l, p⟩ => ⟨m', l, H7, x7, p⟩⟩⟩
    | false => exact iteF ⟨H5, x5, by simpa using q⟩⟩
theorem ws_whileE (tk : Tk X W) (Pv : Nat → St → Hp → Prop) (m : Nat) (h0 : Pv m σ H)
    (hs : ∀ m σ' H', Pv m σ' H' → ∃ k, ET X c σ' H' k ∧ (k = true → WSs X body { D with nx := fun σ3 H3 => ∃ m', m' < m ∧ Pv m' σ3 H3, ct := fun σ3 H3 => ∃ m', m' < m ∧ Pv m' σ3 H3, bk := D.nx } σ' H') ∧ (k = false → D.nx σ' H')) : WS X (.While c body [] pos) D σ H :=
  ws_while tk Pv m h0 fun m σ' H' p => by
    obtain ⟨k, h, h1, h2⟩ := hs m σ' H' p
    exact h.wt (by
      cases k with
      | true => exact iteT (h1 rfl)
      | false => exact iteF (h2 rfl))
/-- what is walked: the iterator's behaviour J -/
def WI (X : Cx) (tg iter : Expr) (σ : St) (H : Hp) (R : It → Hp → Prop) : Prop := ∃ wi, PI X tg iter wi ∧ ∀ H1, Ex H H1 → wi σ H1 fun J H2 => ∃ H', Ex H' H2 ∧ R J H'
/-- for .. in a list that the body leaves as it is -/
theorem ws_forL {q : Addr} (tk : Tk X W) (hl : EV X iter σ H (.ref q)) (hx : SqL X.K H q xs) (Pv : Nat → St → Hp → Prop) (h0 : Pv 0 σ H) (keep : ∀ i σ' H', i ≤ xs.length → Pv i σ' H' → SqL X.K H' q xs)
    (turn : ∀ i x σ' H', xs[i]? = some x → Pv i σ' H' → WG X tg x σ' H' fun σ2 H2 => WSs X body { D with nx := Pv (i + 1), ct := Pv (i + 1), bk := D.nx } σ2 H2)
    (done : ∀ σ' H', Pv xs.length σ' H' → D.nx σ' H') (hc : X.calm = true := by rfl) (hs : ∀ x, foldedSetIterable iter X.env x = pure x := by intro _; rfl) : WS X (.For tg iter body [] pos) D σ H :=
  .of (ps_for tk.own hc (pi_list pe_W) pg_W pss_W hs) fun H1 x => (hl.we (Q := fun v H' => v = .ref q ∧ H' = H) ⟨rfl, rfl⟩).t x fun o H2 ⟨H2', x2, eo, eH⟩ => by
    subst eo; subst eH
    refine ⟨q, rfl, ⟨xs, x2.sqL hx⟩, for_list (K := X.K) (a := q) (xs := xs) (fun i => upS (Pv i)) ⟨_, x2, h0⟩ (fun i σ' H3 hi ⟨H4, x4, p⟩ => x4.sqL (keep i σ' H4 hi p)) (fun i y σ' H3 hi ⟨H4, x4, p⟩ => ?_) fun σ' H3 ⟨H4, x4, p⟩ => ⟨H4, x4, done _ _ p⟩⟩
    exact (turn i y σ' H4 hi p).t x4 fun σ5 H5 ⟨H6, x6, w⟩ => ⟨H6, _, x6, w, ⟨fun _ _ q => q, fun _ _ q => q, fun _ _ q => q, fun _ _ q => q⟩⟩
theorem ws_forT {q : Addr} (tk : Tk X W) (hl : EV X iter σ H (.ref q)) (hx : SqT X.K H q xs) (Pv : Nat → St → Hp → Prop) (h0 : Pv 0 σ H) (keep : ∀ i σ' H', i ≤ xs.length → Pv i σ' H' → SqT X.K H' q xs)
    (turn : ∀ i x σ' H', xs[i]? = some x → Pv i σ' H' → WG X tg x σ' H' fun σ2 H2 => WSs X body { D with nx := Pv (i + 1), ct := Pv (i + 1), bk := D.nx } σ2 H2)
    (done : ∀ σ' H', Pv xs.length σ' H' → D.nx σ' H') (hc : X.calm = true := by rfl) (hs : ∀ x, foldedSetIterable iter X.env x = pure x := by intro _; rfl) : WS X (.For tg iter body [] pos) D σ H :=
  .of (ps_for tk.own hc (pi_tup pe_W) pg_W pss_W hs) fun H1 x => (hl.we (Q := fun v H' => v = .ref q ∧ H' = H) ⟨rfl, rfl⟩).t x fun o H2 ⟨H2', x2, eo, eH⟩ => by
    subst eo; subst eH
    refine ⟨q, rfl, ⟨xs, x2.sqT hx⟩, for_tup (K := X.K) (a := q) (xs := xs) (fun i => upS (Pv i)) ⟨_, x2, h0⟩ (fun i σ' H3 hi ⟨H4, x4, p⟩ => x4.sqT (keep i σ' H4 hi p)) (fun i y σ' H3 hi ⟨H4, x4, p⟩ => ?_) fun σ' H3 ⟨H4, x4, p⟩ => ⟨H4, x4, done _ _ p⟩⟩
    exact (turn i y σ' H4 hi p).t x4 fun σ5 H5 ⟨H6, x6, w⟩ => ⟨H6, _, x6, w, ⟨fun _ _ q => q, fun _ _ q => q, fun _ _ q => q, fun _ _ q => q⟩⟩
/-- for .. in range(n) -/
theorem ws_forR {n : Int} {p : Pos} (tk : Tk X W) (hm : X.mg "range" = none) (ha : EV X a σ H (.int n)) (hn : n ≤ 1000000) (hn0 : -1000000 ≤ n) (Pv : Nat → St → Hp → Prop) (h0 : Pv 0 σ H)
    (turn : ∀ (i : Nat) σ' H', (i : Int) < n → Pv i σ' H' → WG X tg (.int i) σ' H' fun σ2 H2 => WSs X body { D with nx := Pv (i + 1), ct := Pv (i + 1), bk := D.nx } σ2 H2)
    (done : ∀ σ' H', Pv n.toNat σ' H' → D.nx σ' H') (hc : X.calm = true := by rfl) (hg : Gl X "range" := by rfl) (hse : starEach [a] X.env = [(false, eval a X.env)] := by rfl) (hs : ∀ x, foldedSetIterable (.Call (.Name "range" p) [a] [] pos') X.env x = pure x := by intro _; rfl) :
    WS X (.For tg (.Call (.Name "range" p) [a] [] pos') body [] pos) D σ H :=
  .of (ps_for tk.own hc (pi_range1 hg hm (pa_cons pe_W pa_nil hse) hse) pg_W pss_W hs) fun H1 x => (ha.we (Q := fun v H' => v = .int n ∧ H' = H) ⟨rfl, rfl⟩).t x fun o H2 ⟨H2', x2, eo, eH⟩ => by
    subst eo; subst eH
    refine ⟨n, rfl, by omega, by omega, for_range (lo := 0) (n := n.toNat) (fun i => upS (Pv i)) ⟨_, x2, h0⟩ (fun i σ' H3 hi ⟨H4, x4, p⟩ => ?_) fun σ' H3 ⟨H4, x4, p⟩ => ⟨H4, x4, done _ _ p⟩⟩
    rw [Int.zero_add]
    exact (turn i σ' H4 (by omega) p).t x4 fun σ5 H5 ⟨H6, x6, w⟩ => ⟨H6, _, x6, w, ⟨fun _ _ q => q, fun _ _ q => q, fun _ _ q => q, fun _ _ q => q⟩⟩
end
/-! ## defs: a promise that is kept wherever no repr is at work -/
structure FnG (P : Program) (w : World) (K : PySem.W.Frag) (mg : Str → Option Value) (base : Heap) (k : Nat) (f : Addr) (fd : FuncData) (ps : List Str) (sp : Sp) : Prop where
  len : ∀ vs H Q E, sp vs H Q E → vs.length = ps.length
  run : ∀ (A : Around) (outer : List Env) (s : Shared) (H1 : Hp) (args : Args) (us : List Value) (vs : List V) (H : Hp) (Q : VK) (E : XK), Room k A → A.guards = some [] → Env0 P w K mg base A outer s H1 → BindsTo s fd args (ps.zip us) → Vals vs us → Ex H H1 →
    sp vs H Q E → codeAny (model P w) A (.call (.ref f) args) (CR (L2.CX P w) outer P w H1 s (up Q) (upE E)) s
/-- the code around: room, no repr, its wish -/
structure Cn (X : Cx) (W : WX) (k : Nat) : Prop where
  room : Room k X.A
  gd : X.A.guards = some []
  tk : Takes X W
  wu : ∀ c d σ H H', W c d σ H → Ex H H' → W c d σ H'
theorem Cn.mono {X : Cx} {W : WX} {j k : Nat} (c : Cn X W k) (h : j ≤ k) : Cn X W j := ⟨c.room.mono h, c.gd, c.tk, c.wu⟩
abbrev Own (X : Cx) : Prop := PassesOwn (model X.prog X.w) X.A X.env X.xe
theorem Cn.t {X : Cx} {W : WX} {k : Nat} (c : Cn X W k) (o : Own X) : Tk X W := ⟨c.tk, c.wu, o⟩

/-- a def's body as it runs -/
abbrev fx (P : Program) (w : World) (K : PySem.W.Frag) (mg : Str → Option Value) (base : Heap) (N : List Str) (qual : Str) (st : Stmt) (f : Addr) (cd : Value) (A : Around) (outer : List Env) (s : Shared) (H : Hp) (E : XK) : Cx :=
  cxOf (L2.CX P w) P w K mg base N qual (defScope st) f cd A outer s H E
section
variable {P : Program} {w : World} {K : PySem.W.Frag} {mg : Str → Option Value} {base : Heap}
/-- THE RULE of a def: its body -/
theorem fng_of {x qual : Str} {st : Stmt} {f : Addr} {fd : FuncData} {N ps : List Str} {k : Nat} {sp : Sp} (F : Fun K x qual st f fd) (S : FnScope N ps (defScope st)) (len : ∀ vs H Q E, sp vs H Q E → vs.length = ps.length)
    (body : ∀ (cd : Value) (A : Around) (outer : List Env) (s : Shared) (H1 : Hp) (E1 : XK) (W : WX) (vs : List V) (H : Hp) (Q : VK) (E : XK), Cn (fx P w K mg base N qual st f cd A outer s H1 E1) W k → Own (fx P w K mg base N qual st f cd A outer s H1 E1) →
      (∀ c d σ H', E c d H' → W c d σ H') → sp vs H Q E → WSs (fx P w K mg base N qual st f cd A outer s H1 E1) (defBody st) { nx := fun _ H' => Q .non H', rt := Q } (start N vs) H) : FnG P w K mg base (k + 1) f fd ps sp := by
  obtain ⟨oc, od, kV, doc, pm, an, cd, ct, osl, rfl, lk, hcd⟩ := F.ex
  refine ⟨len, fun A outer s H1 args us vs H Q E hr hgd e0 hb r hx hsp => ?_⟩
  have KX : K.In s.heap := e0.mod.kin.keeps fun b o e => (e0.bs b o e).1
  have hl := len _ _ _ _ hsp
  have kinds : ∀ y ∈ ps.zip us, (defScope st).names.lookup y.1 = some .local ∨ ((defScope st).names.lookup y.1 = some .cell ∧ ((cellsFrom (s.heap.objs.size + 1) (defScope st).names []).lookup y.1).isSome = true) := by
    rintro ⟨n, v⟩ hy
    rcases S.par n (List.of_mem_zip hy).1 with q | q
    · exact .inl q
    · exact .inr ⟨q, PySem.W.cellsFrom_some _ _ _ (.inl q)⟩
  refine codeAny_call_function hr.depth (KX _ _ lk) rfl S.co S.gen rfl (PySem.W.codeRec_of KX hcd) (hb _ _ _ _ (wpAny_newFunctionEnv_cells S.kind kinds fun env he s1 x => ?_))
  subst he
  refine ⟨(e0.mod.nolimit.keeps fun b o e => (e0.bs b o e).1).keeps x.toInCall.keep, codeAny_func ?_⟩
  have I := inv_start (CX := L2.CX P w) (E := upE E) S hr.hd e0 hl r x
  have c : Cn (fx P w K mg base N qual st f cd A outer s H1 (upE E)) (fun c d _ H' => upE E c d H') k :=
    ⟨hr.deeper _, hgd, takes_of (E := upE E) rfl rfl rfl rfl, fun c d σ H H' ⟨H2, x2, q⟩ x3 => ⟨H2, x2.trans x3, q⟩⟩
  have w1 := body cd A outer s H1 (upE E) _ vs H Q E c (passes_of rfl) (fun c d σ H' q => ⟨H', Ex.refl H', q⟩) hsp
  refine wpAny_mono (w1 H1 hx [] s1 I) (fun fl s' q => ?_) fun e s' q => q
  cases fl with
  | ret u =>
    obtain ⟨v, σ', H', J, rv, q⟩ := q
    exact ⟨v, H', J.os, J.bare, J.base, J.hok, rv, q⟩
  | next =>
    obtain ⟨σ', H', J, q⟩ := q
    exact ⟨.non, H', J.os, J.bare, J.base, J.hok, rfl, q⟩
  | brk =>
    obtain ⟨_, _, _, _, _, q⟩ := q
    exact q.elim
  | cont =>
    obtain ⟨_, _, _, _, _, q⟩ := q
    exact q.elim
/-- a def that is found under its name: level, parameters, defaults, promise -/
structure Cal (P : Program) (w : World) (K : PySem.W.Frag) (mg : Str → Option Value) (base : Heap) (n : Str) (k : Nat) (ps : List Str) (dvs : List V) (sp : Sp) : Prop where
  ex : ∃ (f : Addr) (fd : FuncData) (ds : List Value), FnG P w K mg base k f fd ps sp ∧ mg n = some (.ref f) ∧ PySem.W.keepIn K (.ref f) = true ∧ Binds K fd ps ds ∧ Vals dvs ds ∧ ∃ oc od osl, K.lookup f = some ⟨oc, od, .func fd, osl⟩
/-- where a def stands -/
structure Def (K : PySem.W.Frag) (mg : Str → Option Value) (n : Str) (st : Stmt) (ps : List Str) : Type where
  f : Addr
  fd : FuncData
  F : Fun K n n st f fd
  g : mg n = some (.ref f)
  b : Binds K fd ps []
theorem Def.cal {n : Str} {st : Stmt} {ps N : List Str} {k : Nat} {sp : Sp} (d : Def K mg n st ps) (S : FnScope N ps (defScope st)) (len : ∀ vs H Q E, sp vs H Q E → vs.length = ps.length)
    (body : ∀ (cd : Value) (A : Around) (outer : List Env) (s : Shared) (H1 : Hp) (E1 : XK) (W : WX) (vs : List V) (H : Hp) (Q : VK) (E : XK), Cn (fx P w K mg base N n st d.f cd A outer s H1 E1) W k → Own (fx P w K mg base N n st d.f cd A outer s H1 E1) →
      (∀ c d σ H', E c d H' → W c d σ H') → sp vs H Q E → WSs (fx P w K mg base N n st d.f cd A outer s H1 E1) (defBody st) { nx := fun _ H' => Q .non H', rt := Q } (start N vs) H) : Cal P w K mg base n (k + 1) ps [] sp :=
  ⟨d.f, d.fd, [], fng_of d.F S len body, d.g, d.F.kp, d.b, .nil, by
    obtain ⟨oc, od, kV, doc, pm, an, cd, ct, osl, e, lk, _⟩ := d.F.ex
    exact ⟨oc, od, osl, lk⟩⟩
end

section
variable {X : Cx} {W : WX} {e : Expr} {es : List Expr} {σ : St} {H H1 : Hp} {Q : VK} {E : XK} {v : V} {vs dvs : List V} {n : Str} {k j : Nat} {f : Addr} {fd : FuncData} {ps : List Str} {sp : Sp} {us ds : List Value} {p pos : Pos} {pins : List (Addr × Obj)} {s : Shared}
theorem run_fng (F : FnG X.prog X.w X.K X.mg X.base k f fd ps sp) (c : Cn X W k) (hb : Binds X.K fd ps ds) (hd : Vals dvs ds) (I : Inv X pins σ H1 s) (x : Ex H H1) (r : Vals vs us) (h : sp (vs ++ dvs) H Q fun c d H' => W c d σ H') :
    wpAny (model X.prog X.w) X.A (call (.ref f) us) (EP X pins σ (up Q)) X.xe s := by
  have r2 := r.append hd
  have hl : (us ++ ds).length = ps.length := r2.length.symm.trans (F.len _ _ _ _ h)
  refine wpAny_call (codeAny_mono (F.run X.A X.stack s H1 ⟨us, []⟩ (us ++ ds) (vs ++ dvs) H Q _ c.room c.gd I.env0 (hb s us I.kIn hl) r2 x h) fun res s' q => ?_)
  rcases res with er | fl
  · exact c.tk er s' (XE.of_call I (fun cl d H' ⟨H2, x2, q2⟩ => c.wu _ _ _ _ _ q2 x2) q)
  · cases fl with
    | ret u => exact I.after q
    | _ => exact q.elim
theorem we_call (C : Cal X.prog X.w X.K X.mg X.base n k ps dvs sp) (c : Cn X W j) (ha : WA X (e :: es) σ H fun vs H1 => sp (vs ++ dvs) H1 Q fun c d H' => W c d σ H') (hkj : k ≤ j := by decide) (hg : Gl X n := by rfl) (hdb : (n == ("__debug__" : Str)) = false := by decide)
    (he : starEach (e :: es) X.env = (false, eval e X.env) :: starEach es X.env := by rfl) (hpl : (backTo pos (starEach es X.env)).any (·.1) = false := by rfl) : WE X (.Call (.Name n p) (e :: es) [] pos) σ H Q := by
  obtain ⟨f, fd, ds, F, hm, hk, hb, hd, _⟩ := C.ex
  intro H1 x pins s I
  refine wpAny_Call_Name_kw (ld_glob I hg hm (PySem.W.callWith_K (h₀ := X.base) I.ok.mod.kin hk (thn (ha H1 x pos pins s I) fun us s1 ⟨vs, H2, I2, r, H3, x3, q⟩ => ⟨I2.kIn, ?_⟩) he hpl) hdb)
  exact run_fng F (c.mono hkj) hb hd I2 x3 r q
theorem we_call0 (C : Cal X.prog X.w X.K X.mg X.base n k ps dvs sp) (c : Cn X W j) (h : sp dvs H Q fun c d H' => W c d σ H') (hkj : k ≤ j := by decide) (hg : Gl X n := by rfl) (hdb : (n == ("__debug__" : Str)) = false := by decide) : WE X (.Call (.Name n p) [] [] pos) σ H Q := by
  obtain ⟨f, fd, ds, F, hm, hk, hb, hd, _⟩ := C.ex
  intro H1 x pins s I
  exact wpAny_Call_Name_kw (ld_glob I hg hm (PySem.W.callWith_K0 I.kIn hk (run_fng (us := []) (vs := []) F (c.mono hkj) hb hd I x .nil h)) hdb)
/-- a call whose value is told by the arguments, that leaves all as it is -/
theorem ev_call (C : Cal X.prog X.w X.K X.mg X.base n k ps dvs sp) (c : Cn X W j) (ha : EA X (e :: es) σ H vs) (h : ∀ H1, Ex H H1 → ∀ Q E, Q v H1 → sp (vs ++ dvs) H1 Q E) (hkj : k ≤ j := by decide) (hg : Gl X n := by rfl) (hdb : (n == ("__debug__" : Str)) = false := by decide)
    (he : starEach (e :: es) X.env = (false, eval e X.env) :: starEach es X.env := by rfl) (hpl : (backTo pos (starEach es X.env)).any (·.1) = false := by rfl) : EV X (.Call (.Name n p) (e :: es) [] pos) σ H v := fun H1 x Q q =>
  we_call C c ((ha.ex x).wa (h H1 x Q _ q)) hkj hg hdb he hpl
end

/-! ## raise -/
section
variable {X : Cx} {W : WX} {e : Expr} {es : List Expr} {σ : St} {H H1 : Hp} {Q : VK} {D : Ends} {E : XK} {n : Str} {C : Addr} {p pos : Pos} {k : Nat}
def WM (X : Cx) (e : Expr) (σ : St) (H : Hp) (E : XK) : Prop := ∀ H1, Ex H H1 → ∀ pins s, Inv X pins σ H1 s → wpAny (model X.prog X.w) X.A (eval e X.env) (MkP X pins σ (upE E)) X.xe s
theorem ws_raise (c : Cn X W k) (h : WM X e σ H fun c d H' => W c d σ H') (hc : X.calm = true := by rfl) : WS X (.Raise (some e) none pos) D σ H :=
  .of (ps_raise hc c.tk (t := fun σ H1 E1 => ∃ H E, Ex H H1 ∧ WM X e σ H E ∧ ∀ c d H', upE E c d H' → E1 c d H') fun pins s σ H1 E1 I ⟨H, E, x, w, k⟩ =>
    thn (w H1 x pins s I) fun u s1 ⟨a, oe, vs, sI, H', cls, d, e1, J, k1, hne, ha, hz, hd, h1, na, os, ag, r, q⟩ => ⟨a, oe, vs, sI, H', cls, d, e1, J, k1, hne, ha, hz, hd, h1, na, os, ag, r, k _ _ _ q⟩)
    fun H1 x => ⟨H, _, x, h, fun c1 d1 H' ⟨H2, x2, q⟩ => c.wu _ _ _ _ _ q x2⟩
/-- an own class of error without an __init__ -/
structure ErrC (K : PySem.W.Frag) (mg : Str → Option Value) (n : Str) (C : Addr) : Prop where
  g : mg n = some (.ref C)
  x : PySem.W.excIn K C [.type "ValueError", .type "Exception", .type "BaseException", .type "object"] "ValueError.__new__" = true
  kp : PySem.W.keepIn K (.ref C) = true
  sb : PySem.W.subIn K (.ref C) (.type "BaseException") = some true
  ty : PySem.W.typeIn K (.ref C) = some (.type "type")
  dd : PySem.W.hasDictIn K C = true
theorem wm_err (T : ErrC X.K X.mg n C) (ha : WA X (e :: es) σ H fun vs H1 => vs.length ≤ 1000 ∧ E (.ref C) none H1) (hg : Gl X n := by rfl) (hdb : (n == ("__debug__" : Str)) = false := by decide)
    (he : starEach (e :: es) X.env = (false, eval e X.env) :: starEach es X.env := by rfl) (hpl : (backTo pos (starEach es X.env)).any (·.1) = false := by rfl) : WM X (.Call (.Name n p) (e :: es) [] pos) σ H E := fun H1 x pins s I =>
  (pmk_ownA PySem.F.excBase_ValueError T.x T.g T.kp (raises_own T.sb T.ty) hg pa_W hdb he hpl) pins s σ H1 _ I (ha.t x fun vs H2 ⟨H3, x3, hz, q⟩ => ⟨Nat.le_trans hz (by decide), H3, x3, q⟩)
end

/-! ## f-strings -/
section
variable {X : Cx} {e a b : Expr} {es : List Expr} {σ : St} {H H1 : Hp} {p pos : Pos}
theorem ev_fmtI {i : Int} (h : EV X e σ H (.int i)) (hi : i.natAbs.log2 < 1920) : EV X (.FormattedValue e (-1) none pos) σ H (.str (toString i)) := fun H1 x Q q =>
  .of (pe_fmt pe_W) fun H2 x2 => ((h.ex x).we (Q := fun v H => v = .int i ∧ Q (.str (toString i)) H) ⟨rfl, q⟩).t x2 fun v H3 ⟨H4, x4, ev, q⟩ => .inr ⟨i, ev, hi, H4, x4, q⟩
theorem ev_fmtS {y : Str} (h : EV X e σ H (.str y)) (hi : y.length ≤ sizeLine) : EV X (.FormattedValue e (-1) none pos) σ H (.str y) := fun H1 x Q q =>
  .of (pe_fmt pe_W) fun H2 x2 => ((h.ex x).we (Q := fun v H => v = .str y ∧ Q (.str y) H) ⟨rfl, q⟩).t x2 fun v H3 ⟨H4, x4, ev, q⟩ => .inl ⟨y, ev, hi, H4, x4, q⟩
inductive JV (X : Cx) (σ : St) (H : Hp) : List Expr → List Str → Prop where
  | nil : JV X σ H [] []
  | cons {e : Expr} {y : Str} {es : List Expr} {ys : List Str} (h : EV X e σ H (.str y)) (r : JV X σ H es ys) : JV X σ H (e :: es) (y :: ys)
theorem JV.pj {ys : List Str} (h : JV X σ H es ys) : PJ X es (es.map (tWE X)) := by
  induction h with
  | nil => exact .nil
  | cons h r ih => exact .cons pe_W ih
theorem strlen (a b : Str) : (a ++ b).length = a.length + b.length := by
  show (Str.mk (a.cps ++ b.cps)).cps.size = _
  simp [Str.length]
theorem JV.run {ys : List Str} (h : JV X σ H es ys) : ∀ (acc : Str) (Q : Str → Hp → Prop) (H1 H2 : Hp), Ex H H1 → Ex H1 H2 → acc.length + (ys.map Str.length).sum ≤ sizeLine → (∀ H3, Ex H1 H3 → Q (ys.foldl (· ++ ·) acc) H3) → tJs (es.map (tWE X)) acc σ H2 Q := by
  induction h with
  | nil => intro acc Q H1 H2 x x2 hz k; exact k H2 x2
  | @cons e y es ys h r ih =>
    intro acc Q H1 H2 x x2 hz k
    refine ((h.ex x).we (Q := fun v H => v = .str y ∧ H = H1) ⟨rfl, rfl⟩).t x2 fun v H3 ⟨H4, x4, ev, eH⟩ => ?_
    subst ev; subst eH
    have hz2 : acc.length + (y.length + (ys.map Str.length).sum) ≤ sizeLine := by simpa using hz
    exact ⟨y, rfl, by rw [strlen]; omega, ih (acc ++ y) Q H4 H3 x x4 (by rw [strlen]; omega) k⟩
theorem ev_joined {ys : List Str} {z : Str} (h : JV X σ H (a :: b :: es) ys) (hz : (ys.map Str.length).sum ≤ 1000000) (e : ys.foldl (· ++ ·) Str.empty = z) : EV X (.JoinedStr (a :: b :: es) pos) σ H (.str z) := fun H1 x Q q =>
  .of (pe_joined h.pj) fun H2 x2 => h.run Str.empty _ H1 H2 x x2 (by show 0 + _ ≤ _; rw [Nat.zero_add]; exact Nat.le_trans hz (by decide)) fun H3 x3 => by rw [e]; exact ⟨H1, x3, q⟩
end
/-! ## try -/
section
variable {X : Cx} {W : WX} {body suite : List Stmt} {b0 : Stmt} {σ : St} {H H1 : Hp} {D : Ends} {n x : Str} {i k : Nat} {c : Value} {np pos pos' : Pos}
/-- the suite's ends, the name gone -/
def endsAs (i : Nat) (D : Ends) : Ends := { nx := fun σ' H' => D.nx (σ'.set i none) H', rt := D.rt, bk := fun σ' H' => D.bk (σ'.set i none) H', ct := fun σ' H' => D.ct (σ'.set i none) H' }
def Suite (X : Cx) (a : Addr) (cls : Value) (d : Option Addr) (sts : List Stmt) (D : Ends) (σ : St) (H : Hp) : Prop := ∀ oe pn, Zc cls d oe → (∃ vs, oe.data = .fields vs) → WSs (X.suite a ((a, oe) :: pn)) sts D σ H
/-- what the body may let out: the clause's own, or what passes on -/
def wishAs (X : Cx) (c : Value) (i : Nat) (sts : List Stmt) (W : WX) (D : Ends) : WX := fun cls d σ H =>
  ∃ b, PySem.W.exmOne X.K cls c = some b ∧ (b = true → ∀ a, Suite X a cls d sts (endsAs i D) (σ.set i (some (.ref a))) H) ∧ (b = false → W cls d σ H)
def wishO (X : Cx) (c : Value) (sts : List Stmt) (W : WX) (D : Ends) : WX := fun cls d σ H =>
  ∃ b, PySem.W.exmOne X.K cls c = some b ∧ (b = true → ∀ a, Suite X a cls d sts D σ H) ∧ (b = false → W cls d σ H)
def upW (W : WX) : WX := fun c d σ H => ∃ H', Ex H' H ∧ W c d σ H'
theorem Cn.tr {k : Nat} {W W1 : WX} {pn : List (Addr × Obj)} {xe : Value → Shared → Prop} (cn : Cn X W k) (tk : Takes (X.tr pn xe) W1) (h : ∀ c d σ H, upW W1 c d σ H → W1 c d σ H) : Cn (X.tr pn xe) W1 k :=
  ⟨cn.room, cn.gd, tk, fun c d σ H H' w x => h _ _ _ _ ⟨H, x, w⟩⟩
def tSuite (X : Cx) (sts : List Stmt) (a : Addr) (cls : Value) (d : Option Addr) : TS := fun D1 σ H1 => ∃ H D, Ex H H1 ∧ Suite X a cls d sts D σ H ∧ EndsLe D D1
def tBody (X : Cx) (sts : List Stmt) (W : WX) : TS := fun D1 σ H1 => ∃ H D, Ex H H1 ∧ (∀ pn xe, Takes (X.tr pn xe) W → PassesOwn (model X.prog X.w) X.A X.env xe → WSs (X.tr pn xe) sts D σ H) ∧ EndsLe D D1
/-- try: body / except x as n: suite -/
theorem ws_tryAs (cn : Cn X W k) (hN : X.N.Nodup) (hi : X.N[i]? = some n) (hx : X.mg x = some c) (h : ∀ pn xe, Cn (X.tr pn xe) (upW (wishAs X c i (b0 :: suite) W D)) k → PassesOwn (model X.prog X.w) X.A X.env xe → WSs (X.tr pn xe) body D σ H)
    (hg : Gl X x := by rfl) (hl : X.env.kindOf n = some .local := by rfl) (hdb : (x == ("__debug__" : Str)) = false := by decide) (hs : X.stack = X.env :: X.outer := by rfl) (hf : X.env.frame = some X.env.locals := by rfl) :
    WS X (.Try body [.ExceptHandler (some (.Name x np)) (some n) (b0 :: suite) pos'] [] [] pos) D σ H :=
  .of (ps_try_as hs hf hN hi hl (c := c) ⟨hg, hdb, .inl hx⟩ cn.tk (tb := tBody X body) (ts := tSuite X (b0 :: suite))
    (fun W1 pn xe tk po => ⟨fun pins s σ H1 D1 I ⟨H, D, x, w, k⟩ => thn (w pn xe tk po H1 x pins s I) fun u s' q => SP.le k q⟩)
    (fun a oe cls d pn hz hf => ⟨fun pins s σ H1 D1 I ⟨H, D, x, w, k⟩ => thn (w oe pn hz hf H1 x pins s I) fun u s' q => SP.le k q⟩))
    fun H1 x1 => ⟨H, D, x1, fun pn xe tk po => h pn xe (cn.tr (tk.imp fun cls d σ H2 ⟨H3, x3, b, e, y, no⟩ => ⟨b, e, fun hb a _ => ⟨H3, _, x3, y hb a, ⟨fun _ _ q => q, fun _ _ q => q, fun _ _ q => q, fun _ _ q => q⟩⟩, fun hb => cn.wu _ _ _ _ _ (no hb) x3⟩)
      fun c d σ H ⟨H2, x2, H3, x3, q⟩ => ⟨H3, x3.trans x2, q⟩) po, EndsLe.rfl⟩
theorem ws_tryO (cn : Cn X W k) (hx : X.mg x = some c) (h : ∀ pn xe, Cn (X.tr pn xe) (upW (wishO X c (b0 :: suite) W D)) k → PassesOwn (model X.prog X.w) X.A X.env xe → WSs (X.tr pn xe) body D σ H)
    (hg : Gl X x := by rfl) (hdb : (x == ("__debug__" : Str)) = false := by decide) (hs : X.stack = X.env :: X.outer := by rfl) (hf : X.env.frame = some X.env.locals := by rfl) :
    WS X (.Try body [.ExceptHandler (some (.Name x np)) none (b0 :: suite) pos'] [] [] pos) D σ H :=
  .of (ps_try_only hs hf (c := c) ⟨hg, hdb, .inl hx⟩ cn.tk (tb := tBody X body) (ts := tSuite X (b0 :: suite))
    (fun W1 pn xe tk po => ⟨fun pins s σ H1 D1 I ⟨H, D, x, w, k⟩ => thn (w pn xe tk po H1 x pins s I) fun u s' q => SP.le k q⟩)
    (fun a oe cls d pn hz hf => ⟨fun pins s σ H1 D1 I ⟨H, D, x, w, k⟩ => thn (w oe pn hz hf H1 x pins s I) fun u s' q => SP.le k q⟩))
    fun H1 x1 => ⟨H, D, x1, fun pn xe tk po => h pn xe (cn.tr (tk.imp fun cls d σ H2 ⟨H3, x3, b, e, y, no⟩ => ⟨b, e, fun hb a _ => ⟨H3, _, x3, y hb a, EndsLe.rfl⟩, fun hb => cn.wu _ _ _ _ _ (no hb) x3⟩)
      fun c d σ H ⟨H2, x2, H3, x3, q⟩ => ⟨H3, x3.trans x2, q⟩) po, EndsLe.rfl⟩
/-- isinstance(e, C) of the error that the suite holds -/
theorem ec_isE {a E : Addr} {oe : Obj} {pn : List (Addr × Obj)} {cv : V} {u : Value} {b : Bool} {H : Hp} (T : ExcC X.K E) (hz : Zc (.ref E) none oe) (hf : ∃ vs, oe.data = .fields vs) (hc : RelV cv u) (hu : ∀ w, RelV cv w → w = u) (hk : PySem.W.kitOne X.K (.ref E) u = some b) :
    EC (X.suite a ((a, oe) :: pn)) (.builtin "isinstance") [.ref a, cv] H (.bl b) := ec_of (call_isE T hz hf) fun _ _ _ q => ⟨cv, u, b, rfl, hu, hk, q⟩
end

/-! ## the law's end -/
section
variable {P : Program} {w : World} {K : PySem.W.Frag} {mg mb : Str → Option Value} {k : Nat} {fa a : Addr} {fd : FuncData} {x : Str} {sp : Sp} {s : Shared} {vs : List Value} {ns : List Int}
/-- from an abstract heap that tracks nothing but the script -/
theorem end_from (KX : K.In s.heap) (hns : s.heap.Ns mainGlobals mg) (hb : s.heap.Ns builtinsNs mb) (hbb : ∀ x : Str, x ≠ "__name__" → mb x = bootBuiltins x) (hlim : s.heap.NoLimit) (hg : s.gens = #[])
    (ha : s.heap.get? a = some { cls := .type "list", data := .seq vs.toArray }) (hr : Room k callerA) (F : ∀ base : Heap, FnG P w K mg base k fa fd [x] sp) (hbind : ∀ (s : Shared) (u : Value), BindsTo s fd ⟨[u], []⟩ [(x, u)])
    (H : Hp) (hO : Only H) (hok : HOk P w H s.heap) (hA : ∀ b, H b ≠ none → b = a) (hK : H a ≠ none → K.lookup a = none) (hsp : sp [.ref a] H (fun v _ => v = .bl true) fun _ _ _ => False) :
    codeAny (model P w) callerA (.call (.ref fa) ⟨[.ref a], []⟩) (fun r s' => r = .ok (.ret (.bool true)) ∧ OldK s.heap s'.heap ∧ s'.os = s.os ∧ AllBare s'.gens) s := by
  have notDict : ∀ {b : Addr} {o : Obj} {es : Array DictEntry} {ep : Nat}, s.heap.get? b = some o → o.data = .dict es ep → H b = none := by
    intro b o es ep e d
    cases q : H b with
    | none => rfl
    | some u =>
      obtain rfl : b = a := hA b (by rw [q]; simp)
      rw [ha] at e; cases e; cases d
  have ns1 : ∀ {b : Addr} {m : Str → Option Value}, s.heap.Ns b m → (hidT s.heap H).Ns b m := fun ⟨o, es, ep, e, d, r⟩ => ⟨o, es, ep, hidT_get e (notDict e d), d, r⟩
  have KB : K.In (hidT s.heap H) := by
    intro b o e
    refine hidT_get (KX b o e) ?_
    cases q : H b with
    | none => rfl
    | some u =>
      obtain rfl : b = a := hA b (by rw [q]; simp)
      rw [hK (by rw [q]; simp)] at e; cases e
  have e0 : Env0 P w K mg (hidT s.heap H) callerA [] s H :=
    ⟨rfl, ⟨KB, ns1 hns, ⟨mb, ns1 hb, hbb⟩, by obtain ⟨mc, h1, h2⟩ := hlim; exact ⟨mc, ns1 h1, h2⟩⟩, fun b o e => of_hidT e, Nat.le_of_eq (hidT_size _ _), trivial, (fun b z => by cases z), hok, .of_eq hg⟩
  refine codeAny_mono ((F _).run callerA [] s H ⟨[.ref a], []⟩ [.ref a] [.ref a] H _ _ hr rfl e0 (hbind s (.ref a)) (.cons rfl .nil) (Ex.refl H) hsp) fun r s' h => ?_
  rcases r with er | fl
  · obtain ⟨_, _, _, _, _, _, _, _, _, _, _, _, H2, _, z⟩ := h
    exact z.elim
  · cases fl with
    | ret u =>
      obtain ⟨v, H', os, bare, un, hok', rv, H2, _, q⟩ := h
      subst q
      obtain rfl : u = Value.bool true := rv
      refine ⟨rfl, OldK.of_keep fun b o e => ?_, os, bare⟩
      rcases hO b with z | ⟨ob, xs, z⟩
      · exact un.keep b o e z (by intro q; cases q) (by simp)
      · have e1 := (hok b _ z).1
        have e2 := (hok' b _ (un.frzs b ob _ z)).1
        rw [e] at e1; cases e1
        exact e2
    | _ => exact h.elim
theorem end_call (KX : K.In s.heap) (hns : s.heap.Ns mainGlobals mg) (hb : s.heap.Ns builtinsNs mb) (hbb : ∀ x : Str, x ≠ "__name__" → mb x = bootBuiltins x) (hlim : s.heap.NoLimit) (hg : s.gens = #[])
    (ha : s.heap.get? a = some { cls := .type "list", data := .seq vs.toArray }) (hi : IntsAre vs ns) (hl : ns.length ≤ sizeLine) (hr : Room k callerA) (F : ∀ base : Heap, FnG P w K mg base k fa fd [x] sp) (hbind : ∀ (s : Shared) (u : Value), BindsTo s fd ⟨[u], []⟩ [(x, u)])
    (hsp : ∀ H : Hp, Only H → SqL K H a (ns.map V.int) → sp [.ref a] H (fun v _ => v = .bl true) fun _ _ _ => False) :
    codeAny (model P w) callerA (.call (.ref fa) ⟨[.ref a], []⟩) (fun r s' => r = .ok (.ret (.bool true)) ∧ OldK s.heap s'.heap ∧ s'.os = s.os ∧ AllBare s'.gens) s := by
  have rv := vals_ints hi
  have lv := hi.length
  cases q : K.lookup a with
  | some o =>
    have e := KX a o q
    rw [ha] at e; cases e
    refine end_from KX hns hb hbb hlim hg ha hr F hbind (fun _ => none) (fun _ => .inl rfl) (fun b u z => by cases z) (fun b z => absurd rfl z) (fun z => absurd rfl z) (hsp _ (fun _ => .inl rfl) (.inr ⟨_, vs.toArray, _, q, rfl, rfl, rfl, ?_, by simpa using rv⟩))
    rw [List.size_toArray, lv]
    exact hl
  | none =>
    let ob : Obj := { cls := .type "list", data := .seq vs.toArray }
    let H : Hp := fun b => if b = a then some (.frz ob (.lst (ns.map V.int))) else none
    have hO : Only H := fun b => by
      by_cases e : b = a
      · exact .inr ⟨ob, _, if_pos e⟩
      · exact .inl (if_neg e)
    have hA : ∀ b, H b ≠ none → b = a := fun b z => Classical.byContradiction fun e => z (if_neg e)
    refine end_from KX hns hb hbb hlim hg ha hr F hbind H hO (fun b u z => ?_) hA (fun _ => q) (hsp H hO (.inl (.inr ⟨ob, if_pos rfl⟩)))
    obtain rfl := hA b (by rw [z]; simp)
    have z1 : some (HO.frz ob (.lst (ns.map V.int))) = some u := (if_pos rfl).symm.trans z
    cases z1
    exact ⟨ha, by rw [List.length_map]; exact hl, vs, _, rv, ha⟩
/-- the goal that k_head leaves, from the law's promise (the script's bits told) -/
theorem walk_end {l : PySem.W.OpenLaw} {n k : Nat} {q : Program} {loose : List Str} {XP : (Str → Option Value) → Heap → Prop} {YP : World → Heap → Prop} {d : DefRec} {K : Params → PySem.W.Frag} {sp : World → Sp} {x : Str}
    (hn : l.most = some n) (hn2 : n ≤ sizeLine) (hdf : d.params.defaults = []) (hr : Room k callerA) (hY : ∀ (w : World) (h : Heap), YP w h → (K w.params).In h)
    (F : ∀ (w : World) (mg : Str → Option Value) (fa : Addr) (h : Heap), (K w.params).In h → h.Ns mainGlobals mg → mg d.name = some (.ref fa) →
      ∃ fd : FuncData, (∀ (s : Shared) (u : Value), BindsTo s fd ⟨[u], []⟩ [(x, u)]) ∧ ∀ base : Heap, FnG l.prog w (K w.params) mg base k fa fd [x] (sp w))
    (hsp : ∀ (w : World) (H : Hp) (a : Addr) (ns : List Int), ns.length ≤ n → (∀ z ∈ ns, Builtin.Int.intBits z ≤ 1048576) → Only H → SqL (K w.params) H a (ns.map V.int) → sp w [.ref a] H (fun v _ => v = .bl true) fun _ _ _ => False) :
    PySem.W.WalkO q loose XP YP l.row.toRowW d [] (fun f vs => PySem.call f vs) := by
  refine Att.attach_callB hn hdf fun w s0 s1 mg mb fa o pm cd doc a vs ns G Y ho hd hcd hmg hobj hints hlen hbits hg => ?_
  obtain ⟨fd, hb, hF⟩ := F w mg fa _ (hY w _ Y) G.T.g hmg
  exact end_call (hY w _ Y) G.T.g G.T.b G.T.builtins G.T.nolimit hg hobj hints (Nat.le_trans hlen hn2) hr hF hb fun H hO hS => hsp w H a ns hlen hbits hO hS
end
/-! ## what a value's class is -/
inductive Ty (H : Hp) : V → String → Prop
  | non : Ty H .non "NoneType"
  | bl (b : Bool) : Ty H (.bl b) "bool"
  | int (i : Int) : Ty H (.int i) "int"
  | str (s : Str) : Ty H (.str s) "str"
  | lst {p : Addr} {xs : List V} (h : H p = some (.lst xs)) : Ty H (.ref p) "list"
  | tup {p : Addr} {xs : List V} (h : H p = some (.tup xs)) : Ty H (.ref p) "tuple"
  | dct {p : Addr} {xs : List (Key × V)} (h : H p = some (.dK xs)) : Ty H (.ref p) "dict"
theorem Ty.ex {H H' : Hp} (x : Ex H H') : ∀ {v : V} {T : String}, Ty H v T → Ty H' v T
  | _, _, .non => .non
  | _, _, .bl b => .bl b
  | _, _, .int b => .int b
  | _, _, .str b => .str b
  | _, _, .lst h => .lst (x _ _ h)
  | _, _, .tup h => .tup (x _ _ h)
  | _, _, .dct h => .dct (x _ _ h)
theorem Ty.x {K : PySem.W.Frag} {H : Hp} : ∀ {v : V} {T : String}, Ty H v T → TyX K H v (.type T)
  | _, _, .non => .base .non
  | _, _, .bl b => .base (.bl b)
  | _, _, .int b => .base (.int b)
  | _, _, .str b => .base (.str b)
  | _, _, .lst h => .base (.lst h)
  | _, _, .tup h => .base (.tup h)
  | _, _, .dct h => .base (.dK h)
def tyIs (T U : String) : Bool := T == U || (T == "bool" && U == "int")
theorem kit_is {H : Hp} {v : V} {T U : String} (ht : Ty H v T) (hU : U = "int" ∨ U = "bool" ∨ U = "str" ∨ U = "list" ∨ U = "tuple" ∨ U = "dict") : kitB T U = some (tyIs T U) := by
  cases ht <;> rcases hU with rfl | rfl | rfl | rfl | rfl | rfl <;> decide +kernel
theorem ec_isT {X : Cx} {H : Hp} {v : V} {T U : String} (ht : Ty H v T) (hU : U = "int" ∨ U = "bool" ∨ U = "str" ∨ U = "list" ∨ U = "tuple" ∨ U = "dict") : EC X (.builtin "isinstance") [v, .ty U] H (.bl (tyIs T U)) :=
  ec_of call_isi fun _ x _ q => ⟨v, .ty U, _, _, _, rfl, .ty U, (ht.ex x).x, kit_ty (kit_is ht hU), q⟩
theorem ev_ty {X : Cx} {σ : St} {H : Hp} {pos : Pos} {n : Str} {T : String} (hm : X.mg n = none) (hv : bootBuiltins n = some (.type T)) (hg : Gl X n := by rfl) (hn : n ≠ "__name__" := by decide) (hd : (n == ("__debug__" : Str)) = false := by decide) : EV X (.Name n pos) σ H (.ty T) := ev_bltn hm hv rfl hg hn hd
def isInt : V → Bool
  | .int _ => true
  | _ => false
theorem Ty.int_is {H : Hp} {v : V} {T : String} (h : Ty H v T) : (tyIs T "int" && !tyIs T "bool") = isInt v := by cases h <;> rfl

/-! ## ends, forgetting -/
section
variable {X : Cx} {e : Expr} {sts : List Stmt} {σ : St} {H H1 H' : Hp} {D : Ends} {pos : Pos} {Q : VK} {v : V} {p q : Addr} {o u : HO}
theorem ws_retF (h : WE X e σ H fun v H1 => ∃ H', Ex H' H1 ∧ D.rt v H') : WS X (.Return (some e) pos) D σ H := ws_ret h.forget
theorem ws_retE (h : EV X e σ H v) (q : ∃ H', Ex H' H ∧ D.rt v H') : WS X (.Return (some e) pos) D σ H := ws_retF (h.we q)
theorem WSs.forget (x : Ex H H') (h : WSs X sts D σ H) : WSs X sts D σ H' := fun H1 x1 => h H1 (x.trans x1)
theorem wss_nilF (h : ∃ H', Ex H' H ∧ D.nx σ H') : WSs X [] D σ H := by
  obtain ⟨H', x, q⟩ := h
  exact WSs.forget x (wss_nil q)
theorem exput (x : Ex H H') (h : H' p = some o) : Ex (upd H p o) H' := fun a u ha => by
  by_cases e : a = p
  · subst e; rw [upd_same] at ha; rw [h]; exact ha
  · rw [upd_ne e] at ha; exact x a u ha
theorem upd_id (h : H p = some o) : upd H p o = H := by
  funext a
  by_cases e : a = p
  · subst e; rw [upd_same, h]
  · rw [upd_ne e]
theorem hp_ne (n : H p = none) (h : H q = some u) : upd H p o q = some u := Ex.put n _ _ h

/-- all but one object is as it was -/
def ExB (p : Addr) (H H' : Hp) : Prop := ∀ a o, a ≠ p → H a = some o → H' a = some o
theorem ExB.refl : ExB p H H := fun _ _ _ h => h
theorem ExB.set {o : HO} (x : ExB p H H') : ExB p H (upd H' p o) := fun a u n h => by rw [upd_ne n]; exact x a u n h
theorem ExB.new {q : Addr} {o : HO} (x : ExB p H H') (n : H' q = none) : ExB p H (upd H' q o) := fun a u ne h => hp_ne n (x a u ne h)
theorem ExB.ex (x : ExB p H H') (h : H p = some o) : Ex H (upd H' p o) := fun a u ha => by
  by_cases e : a = p
  · subst e; rw [upd_same, ← h, ha]
  · rw [upd_ne e]; exact x a u e ha
theorem lenle {xs : List V} (h : Nat.ble xs.length 100000 = true) : xs.length ≤ 100000 := Nat.le_of_ble_eq_true h

/-! ## an object by what stays true of it -/
/-- the drawing pot: two ints, the first one not negative, the second one small -/
def PotOk (a b : Int) : Prop := 0 ≤ a ∧ 0 ≤ b ∧ b < 2147483648
def PotAt (p : Addr) (h : Heap) : Prop := ∃ (a b : Int) (t u : Tok) (n : Nat), PotOk a b ∧ h.get? p = some { cls := .type "list", data := .seq [Value.int a t, Value.int b u].toArray n }
def pot (p : Addr) : HO := .ext (PotAt p)
theorem pot_ok {P : Program} {w : World} {H : Hp} {h : Heap} {a b : Int} (ok : PotOk a b) (x : ObjOk P w H h p (.lst [.int a, .int b])) (H2 : Hp) : ObjOk P w H2 h p (pot p) := by
  obtain ⟨_, its, n, r, e⟩ := x
  cases r with
  | cons r1 r2 =>
    cases r2 with
    | cons r2 r3 =>
      cases r3
      obtain ⟨t, rfl⟩ := r1
      obtain ⟨u, rfl⟩ := r2
      exact ⟨⟨a, b, t, u, n, ok, e⟩, ⟨_, e⟩, fun h1 h2 ⟨a, b, t, u, n, ok, e⟩ k => ⟨a, b, t, u, n, ok, k _ e⟩⟩
theorem pot_open {X : Cx} {pins : List (Addr × Obj)} {s : Shared} (I : Inv X pins σ H s) (h : H p = some (pot p)) : ∃ a b, PotOk a b ∧ Inv X pins σ (upd H p (.lst [.int a, .int b])) s := by
  obtain ⟨⟨a, b, t, u, n, ok, e⟩, _, _⟩ := I.hok p _ h
  exact ⟨a, b, ok, I.write (x := p) (e := p) (h' := s.heap) (t' := s.toks) (by rw [h]; trivial) (.inl rfl) (fun _ _ _ q => q) ⟨_, e⟩ ⟨by show 2 ≤ sizeLine; decide, _, n, .cons ⟨t, rfl⟩ (.cons ⟨u, rfl⟩ .nil), e⟩⟩
theorem pot_close {X : Cx} {pins : List (Addr × Obj)} {s : Shared} {a b : Int} (I : Inv X pins σ H s) (h : H p = some (.lst [.int a, .int b])) (ok : PotOk a b) : Inv X pins σ (upd H p (pot p)) s := by
  have z := I.hok p _ h
  obtain ⟨_, its, n, r, e⟩ := id z
  exact I.write (x := p) (e := p) (h' := s.heap) (t' := s.toks) (by rw [h]; trivial) (.inl rfl) (fun _ _ _ q => q) ⟨_, e⟩ (pot_ok ok z _)
/-- open the pot ahead of a block -/
theorem wss_pot (h : H p = some (pot p)) (k : ∀ a b, PotOk a b → WSs X sts D σ (upd H p (.lst [.int a, .int b]))) : WSs X sts D σ H := fun H1 x pins s I => by
  obtain ⟨a, b, ok, I2⟩ := pot_open I (x _ _ h)
  exact k a b ok _ (x.set p _) pins s I2
/-- close it behind a value -/
theorem we_pot (h : WE X e σ H fun v H2 => ∃ p a b, H2 p = some (.lst [.int a, .int b]) ∧ PotOk a b ∧ Q v (upd H2 p (pot p))) : WE X e σ H Q := fun H1 x pins s I =>
  thn (h H1 x pins s I) fun u s' ⟨v, H2, I2, r, H3, x3, p, a, b, hp, ok, q⟩ => ⟨v, _, pot_close I2 (x3 _ _ hp) ok, r, _, x3.set p _, q⟩
theorem pot_end {H2 : Hp} {a b : Int} (hp : H p = some (pot p)) (x : ExB p H H2) (h2 : H2 p = some (.lst [.int a, .int b])) (ok : PotOk a b) (q : Q v H) : ∃ p a b, H2 p = some (.lst [.int a, .int b]) ∧ PotOk a b ∧ ∃ H', Ex H' (upd H2 p (pot p)) ∧ Q v H' :=
  ⟨p, a, b, h2, ok, H, x.ex hp, q⟩
end
/-! ## sizes -/
theorem mul_okL {i j : Int} (h : -1000000000000000000 < i) (h2 : i < 1000000000000000000) : CMul i j := .inl ⟨by omega, by omega⟩
theorem mul_okR {i j : Int} (h : -1000000000000000000 < j) (h2 : j < 1000000000000000000) : CMul i j := .inr ⟨by omega, by omega⟩
theorem pow_ok {i j : Int} (h : 0 ≤ j) (h2 : j ≤ 1000000) (h3 : -1000000000000000000 < i) (h4 : i < 1000000000000000000) : CPow i j := ⟨h, h2, by omega⟩
theorem big_lt {i : Int} (h : -10000000000000000000000000000000000000000000000000000000000000000000000000000000000000000000000000000 ≤ i) (h2 : i ≤ 10000000000000000000000000000000000000000000000000000000000000000000000000000000000000000000000000000) : i.natAbs < 2 ^ 400 := Nat.lt_of_le_of_lt (show i.natAbs ≤ (10000000000000000000000000000000000000000000000000000000000000000000000000000000000000000000000000000:Int).toNat by show _ ≤ 10000000000000000000000000000000000000000000000000000000000000000000000000000000000000000000000000000; omega) (by decide +kernel)
theorem fdiv_ok {i j : Int} (h : 0 < j) (h2 : j ≤ 10000000000000000000000000000000000000000000000000000000000000000000000000000000000000000000000000000) : CDivW i j := wide_div (b := 400) h (big_lt (by omega) h2) (by decide) (by decide)
def DigOk (m : Int) : Prop := 0 < m ∧ m ≤ 10000000000000000000000000000000000000000000000000000000000000000000000000000000000000000000000000000
theorem dig_div {a m : Int} (h : DigOk m) : CDivP a m := ⟨h.1, PyProof.noPylong_of_log2 (fdiv_ok (i := a) h.1 h.2).2⟩
theorem shl_fits {i j : Int} (h : 0 ≤ j) (h2 : j ≤ 1000000) (h3 : -10000000000000000000000000000000000000000000000000000000000000000000000000000000000000000000000000000 ≤ i) (h4 : i ≤ 10000000000000000000000000000000000000000000000000000000000000000000000000000000000000000000000000000) : CShl i j := by
  obtain ⟨n, rfl⟩ := Int.eq_ofNat_of_zero_le h
  exact shl_ok (n := 400) (big_lt h3 h4) (by omega)
section
variable {X : Cx} {W : WX} {tg iter a : Expr} {body sts : List Stmt} {σ : St} {H : Hp} {D : Ends} {pos pos' p : Pos} {xs : List V} {q : Addr} {v : V}
theorem WG.mono {R R1 : St → Hp → Prop} (w : WG X tg v σ H R) (k : ∀ σ' H', R σ' H' → R1 σ' H') : WG X tg v σ H R1 := fun H1 x pins s u I r =>
  thn (w H1 x pins s u I r) fun _ s' ⟨σ', H2, I2, H3, x3, q⟩ => ⟨σ', H2, I2, H3, x3, k _ _ q⟩
/-- a turn's ends, the heap as it was -/
def endsAt (Pv : St → Prop) (H : Hp) (D : Ends) : Ends := { nx := fun σ' H' => Ex H H' ∧ Pv σ', ct := fun σ' H' => Ex H H' ∧ Pv σ', rt := D.rt, bk := D.nx }
theorem endsAt_le {Pv : St → Prop} : EndsLe (endsAt Pv H D) (upD { nx := fun σ' H' => H' = H ∧ Pv σ', ct := fun σ' H' => H' = H ∧ Pv σ', rt := D.rt, bk := D.nx }) :=
  ⟨fun _ _ ⟨_, x, y, p⟩ => ⟨H, y.trans x, rfl, p⟩, fun _ _ q => q, fun _ _ q => q, fun _ _ ⟨_, x, y, p⟩ => ⟨H, y.trans x, rfl, p⟩⟩
/-- for .. in a list, the heap of each turn forgotten -/
theorem ws_eachL (tk : Tk X W) (hl : EV X iter σ H (.ref q)) (hx : SqL X.K H q xs) (Pv : Nat → St → Prop) (h0 : Pv 0 σ)
    (turn : ∀ i x σ', xs[i]? = some x → Pv i σ' → WG X tg x σ' H fun σ2 H2 => WSs X body (endsAt (Pv (i + 1)) H D) σ2 H2)
    (done : ∀ σ', Pv xs.length σ' → D.nx σ' H) (hc : X.calm = true := by rfl) (hs : ∀ x, foldedSetIterable iter X.env x = pure x := by intro _; rfl) : WS X (.For tg iter body [] pos) D σ H :=
  ws_forL tk hl hx (fun i σ' H' => H' = H ∧ Pv i σ') ⟨rfl, h0⟩ (fun _ _ _ _ p => p.1 ▸ hx) (fun i x σ' H' hi p => by
    obtain ⟨rfl, p⟩ := p
    exact (turn i x σ' hi p).mono fun σ2 H2 w => w.le endsAt_le) (fun σ' H' p => by
    obtain ⟨rfl, p⟩ := p
    exact done _ p) hc hs
theorem ws_eachT (tk : Tk X W) (hl : EV X iter σ H (.ref q)) (hx : SqT X.K H q xs) (Pv : Nat → St → Prop) (h0 : Pv 0 σ)
    (turn : ∀ i x σ', xs[i]? = some x → Pv i σ' → WG X tg x σ' H fun σ2 H2 => WSs X body (endsAt (Pv (i + 1)) H D) σ2 H2)
    (done : ∀ σ', Pv xs.length σ' → D.nx σ' H) (hc : X.calm = true := by rfl) (hs : ∀ x, foldedSetIterable iter X.env x = pure x := by intro _; rfl) : WS X (.For tg iter body [] pos) D σ H :=
  ws_forT tk hl hx (fun i σ' H' => H' = H ∧ Pv i σ') ⟨rfl, h0⟩ (fun _ _ _ _ p => p.1 ▸ hx) (fun i x σ' H' hi p => by
    obtain ⟨rfl, p⟩ := p
    exact (turn i x σ' hi p).mono fun σ2 H2 w => w.le endsAt_le) (fun σ' H' p => by
    obtain ⟨rfl, p⟩ := p
    exact done _ p) hc hs
theorem ws_eachR {n : Int} (tk : Tk X W) (hm : X.mg "range" = none) (ha : EV X a σ H (.int n)) (hn : n ≤ 1000000) (hn0 : -1000000 ≤ n) (Pv : Nat → St → Prop) (h0 : Pv 0 σ)
    (turn : ∀ (i : Nat) σ', (i : Int) < n → Pv i σ' → WG X tg (.int i) σ' H fun σ2 H2 => WSs X body (endsAt (Pv (i + 1)) H D) σ2 H2)
    (done : ∀ σ', Pv n.toNat σ' → D.nx σ' H) (hc : X.calm = true := by rfl) (hg : Gl X "range" := by rfl) (hse : starEach [a] X.env = [(false, eval a X.env)] := by rfl) (hs : ∀ x, foldedSetIterable (.Call (.Name "range" p) [a] [] pos') X.env x = pure x := by intro _; rfl) :
    WS X (.For tg (.Call (.Name "range" p) [a] [] pos') body [] pos) D σ H :=
  ws_forR tk hm ha hn hn0 (fun i σ' H' => H' = H ∧ Pv i σ') ⟨rfl, h0⟩ (fun i σ' H' hi p => by
    obtain ⟨rfl, p⟩ := p
    exact (turn i σ' hi p).mono fun σ2 H2 w => w.le endsAt_le) (fun σ' H' p => by
    obtain ⟨rfl, p⟩ := p
    exact done _ p) hc hg hse hs
/-- a fact of the heap as it stands -/
theorem wss_have (p : Hp → Prop) (h : p H) (k : p H → WSs X sts D σ H) : WSs X sts D σ H := k h
end
/-- a def's promise at its own place (for the law itself) -/
theorem Def.fng {P : Program} {w : World} {K : PySem.W.Frag} {mg : Str → Option Value} {base : Heap} {n : Str} {st : Stmt} {ps N : List Str} {k : Nat} {sp : Sp} (d : Def K mg n st ps) (S : FnScope N ps (defScope st)) (len : ∀ vs H Q E, sp vs H Q E → vs.length = ps.length)
    (body : ∀ (cd : Value) (A : Around) (outer : List Env) (s : Shared) (H1 : Hp) (E1 : XK) (W : WX) (vs : List V) (H : Hp) (Q : VK) (E : XK), Cn (fx P w K mg base N n st d.f cd A outer s H1 E1) W k → Own (fx P w K mg base N n st d.f cd A outer s H1 E1) →
      (∀ c d σ H', E c d H' → W c d σ H') → sp vs H Q E → WSs (fx P w K mg base N n st d.f cd A outer s H1 E1) (defBody st) { nx := fun _ H' => Q .non H', rt := Q } (start N vs) H) : FnG P w K mg base (k + 1) d.f d.fd ps sp := fng_of d.F S len body
/-- a def from what the top has written -/
def def_mk {h : Heap} {K : PySem.W.Frag} {mg : Str → Option Value} {n : Str} {st : Stmt} (ps : List Str) (X : K.In h) (G : h.Ns mainGlobals mg) {f : Addr} {oc : Value} {od an : Option Addr} {osl : Array (Option Value)} {kV doc pm cdv ct : Value} (a : PySem.W.nsIn K mainGlobals n = some (some (.ref f)))
    (l : K.lookup f = some ⟨oc, od, .func (PySem.W.fnOf n n (defArgs st) (defBody st) (defScope st) .none kV doc pm an cdv ct), osl⟩) (c : PySem.W.codeIn K cdv n = true) (k : PySem.W.keepIn K (.ref f) = true)
    (b : ∀ us : List Value, us.length = ps.length → bindArgs (PySem.W.fnOf n n (defArgs st) (defBody st) (defScope st) .none kV doc pm an cdv ct) ⟨us, []⟩ = pure (ps.zip us)) : Def K mg n st ps :=
  ⟨f, _, fun_mk (st := st) l c k, PySem.W.mg_of X G a, .all b⟩
/-- the law's def handed to walk_end -/
theorem law_end {l : PySem.W.OpenLaw} {w : World} {K : PySem.W.Frag} {mg : Str → Option Value} {n x : Str} {st : Stmt} {k : Nat} {fa : Addr} {sp : Sp} (d : Def K mg n st [x]) (hfa : mg n = some (.ref fa)) (hb : ∀ us : List Value, us.length = 1 → bindArgs d.fd ⟨us, []⟩ = pure ([x].zip us))
    (F : ∀ base : Heap, FnG l.prog w K mg base k d.f d.fd [x] sp) : ∃ fd : FuncData, (∀ (s : Shared) (u : Value), BindsTo s fd ⟨[u], []⟩ [(x, u)]) ∧ ∀ base : Heap, FnG l.prog w K mg base k fa fd [x] sp := by
  have e := hfa.symm.trans d.g
  cases e
  exact ⟨d.fd, fun s u => .of_eq (hb [u] rfl), F⟩
/-- how often a law draws: max(1, min(m, len)) -/
theorem turns_lt {i : Nat} {l m : Int} (hm : 1 ≤ m) (h : (i : Int) < if (if l < m then l else m) > 1 then (if l < m then l else m) else 1) : (i : Int) < m := by split at h <;> (try split at h) <;> omega
theorem turns_le {l m : Int} (hm : m ≤ 1000000) : (if (if l < m then l else m) > 1 then (if l < m then l else m) else 1) ≤ 1000000 := by split <;> (try split) <;> omega
theorem turns_ge {l m : Int} : -1000000 ≤ (if (if l < m then l else m) > 1 then (if l < m then l else m) else 1) := by split <;> (try split) <;> omega
/-! ## comprehensions -/
theorem Cn.blk {X : Cx} {W : WX} {k : Nat} (c : Cn X W k) (s : Shared) (H : Hp) (scope : Scope) (C : Addr) (cl : List (Str × Addr)) (fp : List Addr) : Cn (X.blk s H scope (compEnvC scope cl C X.env) fp) (fun _ _ _ _ => False) k :=
  ⟨c.room, c.gd, fun u s' ⟨a, B, sI, pins, σ, H, cls, d, e, I, nb, up, sky, na, os, ag, w⟩ => w.elim, fun _ _ _ _ _ z _ => z⟩
section
variable {X : Cx} {tg elt c0 iter : Expr} {ifs : List Expr} {scope : Scope} {own : List (Str × Nat)} {σ : St} {H H1 : Hp} {Q : VK} {D : Ends} {pos spos py : Pos} {xs : List V} {q : Addr} {wi : TI} {tt : TT} {te : TE} {vs : List Nat}
/-- a block's turn as seen from within -/
def InB (X : Cx) (scope : Scope) (p : Cx → Prop) : Prop := ∀ (s : Shared) (H : Hp) (C : Addr) (cl : List (Str × Addr)) (fp : List Addr), p (X.blk s H scope (compEnvC scope cl C X.env) fp)
def gB (X : Cx) (scope : Scope) (tg : Expr) : TG := fun v σ H1 R1 => InB X scope fun Y => tWG Y tg v σ H1 R1
def eB (X : Cx) (scope : Scope) (e : Expr) : TE := fun σ H1 Q1 => InB X scope fun Y => tWE Y e σ H1 Q1
def tB (X : Cx) (scope : Scope) (e : Expr) : TT := fun σ H1 Q1 => InB X scope fun Y => tWT Y e σ H1 Q1
theorem gB_ok (s : Shared) (H : Hp) (C : Addr) (cl : List (Str × Addr)) (fp : List Addr) : PG (X.blk s H scope (compEnvC scope cl C X.env) fp) tg (gB X scope tg) :=
  ⟨fun pins s' σ H' v u R I r h => pg_W.run pins s' σ H' v u R I r (h s H C cl fp)⟩
theorem eB_ok {e : Expr} (s : Shared) (H : Hp) (C : Addr) (cl : List (Str × Addr)) (fp : List Addr) : PE (X.blk s H scope (compEnvC scope cl C X.env) fp) e (eB X scope e) :=
  ⟨fun pins s' σ H' Q I h => pe_W.run pins s' σ H' Q I (h s H C cl fp)⟩
theorem tB_ok {e : Expr} (s : Shared) (H : Hp) (C : Addr) (cl : List (Str × Addr)) (fp : List Addr) : PT (X.blk s H scope (compEnvC scope cl C X.env) fp) e (tB X scope e) :=
  ⟨fun pins s' σ H' Q I h => pt_W.run pins s' σ H' Q I (h s H C cl fp)⟩
abbrev Stp := St → Hp → (Option V → Hp → Prop) → Prop
/-- the turn behind its target: the item, or none where the test says no -/
def St0 (X : Cx) (scope : Scope) (e : Expr) : Stp := fun σ H R => InB X scope fun Y => WE Y e σ H fun y H' => R (some y) H'
def St1 (X : Cx) (scope : Scope) (c e : Expr) : Stp := fun σ H R => InB X scope fun Y => WT Y c σ H fun b H' => if b = true then St0 X scope e σ H' R else R none H'
def StOk (st : Stp) (tt : TT) (te : TE) : Prop := ∀ σ H R, st σ H R → ∀ H1, Ex H H1 → ∀ G : Option V → Hp → Prop, (∀ oy H', (∃ H2, Ex H2 H' ∧ R oy H2) → G oy H') → tt σ H1 fun b H3 => if b = true then te σ H3 fun y H4 => G (some y) H4 else G none H3
theorem st0_ok : StOk (St0 X scope elt) tYes (eB X scope elt) := fun σ H R h H1 x G k => by
  show if true = true then eB X scope elt σ H1 (fun y H4 => G (some y) H4) else G none H1
  rw [if_pos rfl]
  exact fun s H C cl fp => (h s H C cl fp).t x fun _ _ q => k _ _ q
theorem st1_ok : StOk (St1 X scope c0 elt) (tB X scope c0) (eB X scope elt) := fun σ H R h H1 x G k s H0 C cl fp => (h s H0 C cl fp).t x fun b H2 ⟨H3, x3, q⟩ => by
  cases b with
  | true =>
    rw [if_pos rfl] at q
    exact iteT fun s H C cl fp => (q s H C cl fp).t x3 fun _ _ q => k _ _ q
  | false => exact iteF (k _ _ ⟨H3, x3, by simpa using q⟩)
/-- what a comprehension asks, its iterator wi -/
def WL (X : Cx) (scope : Scope) (wi : TI) (tg : Expr) (tt : TT) (te : TE) (vs : List Nat) (σ : St) (H : Hp) (Q : VK) : Prop := ∀ H1, Ex H H1 → tLc wi (gB X scope tg) tt te vs σ H1 (up Q)
theorem we_lc0 (wl : WL X scope wi tg tYes (eB X scope elt) (own.map (·.2)) σ H Q) (hi : PI X tg iter wi) (hN : X.N.Nodup) (ok : blkC X.N X.env.scope scope own = true) (hc : X.calm = true := by rfl) (hs : ∀ x, foldedSetIterable iter X.env x = pure x := by intro _; rfl) :
    WE X (.ListComp elt [⟨tg, iter, [], 0⟩] scope pos) σ H Q := .of (pe_lc hc hN hi (blkOk_by ok) gB_ok (fun _ _ _ _ _ => pts_nil) eB_ok hs) wl
theorem we_lc1 (wl : WL X scope wi tg (tB X scope c0) (eB X scope elt) (own.map (·.2)) σ H Q) (hi : PI X tg iter wi) (hN : X.N.Nodup) (ok : blkC X.N X.env.scope scope own = true) (hc : X.calm = true := by rfl) (hs : ∀ x, foldedSetIterable iter X.env x = pure x := by intro _; rfl) :
    WE X (.ListComp elt [⟨tg, iter, [c0], 0⟩] scope pos) σ H Q := .of (pe_lc hc hN hi (blkOk_by ok) gB_ok (fun s H C cl fp => pts_one (tB_ok s H C cl fp)) eB_ok hs) wl
/-- name = [..] -/
theorem ws_lc0 {i : Nat} {y : Str} (wl : WL X scope wi tg tYes (eB X scope elt) (own.map (·.2)) σ H fun x H1 => D.nx (σ.set i (some x)) H1) (hi : PI X tg iter wi) (hN : X.N.Nodup) (hy : X.N[i]? = some y) (ok : blkC X.N X.env.scope scope own = true) (hyl : X.env.scope.names.lookup y = some .local := by rfl)
    (hsw : swapsWith (.ListComp elt [⟨tg, iter, [], 0⟩] scope pos) (some (.Name y py)) spos.line X.env = pure true := by rfl) (hc : X.calm = true := by rfl) (hs : ∀ x, foldedSetIterable iter X.env x = pure x := by intro _; rfl) :
    WS X (.Assign [.Name y py] (.ListComp elt [⟨tg, iter, [], 0⟩] scope pos) spos) D σ H :=
  .of (ps_setLc hc hN hy hyl hsw hi (blkOk_by ok) gB_ok (fun _ _ _ _ _ => pts_nil) eB_ok hs) fun H1 x => wl H1 x
theorem ws_lc1 {i : Nat} {y : Str} (wl : WL X scope wi tg (tB X scope c0) (eB X scope elt) (own.map (·.2)) σ H fun x H1 => D.nx (σ.set i (some x)) H1) (hi : PI X tg iter wi) (hN : X.N.Nodup) (hy : X.N[i]? = some y) (ok : blkC X.N X.env.scope scope own = true) (hyl : X.env.scope.names.lookup y = some .local := by rfl)
    (hsw : swapsWith (.ListComp elt [⟨tg, iter, [c0], 0⟩] scope pos) (some (.Name y py)) spos.line X.env = pure true := by rfl) (hc : X.calm = true := by rfl) (hs : ∀ x, foldedSetIterable iter X.env x = pure x := by intro _; rfl) :
    WS X (.Assign [.Name y py] (.ListComp elt [⟨tg, iter, [c0], 0⟩] scope pos) spos) D σ H :=
  .of (ps_setLc hc hN hy hyl hsw hi (blkOk_by ok) gB_ok (fun s H C cl fp => pts_one (tB_ok s H C cl fp)) eB_ok hs) fun H1 x => wl H1 x

/-- the list so far -/
def addTo (acc : List V) : Option V → List V
  | some y => acc ++ [y]
  | none => acc
/-- one turn, the heap of the turn forgotten -/
def Turn (X : Cx) (scope : Scope) (tg : Expr) (st : Stp) (vs : List Nat) (σ : St) (H : Hp) (x : V) (acc : List V) (Nx : List V → Prop) : Prop :=
  ∀ d, H d = none → InB X scope fun Y => WG Y tg x (wipe σ vs) (upd H d (.lst acc)) fun σ2 H2 => wipe σ2 vs = wipe σ vs ∧ st σ2 H2 fun oy H3 => Ex (upd H d (.lst acc)) H3 ∧ Nx (addTo acc oy)
theorem Turn.run {st : Stp} (ok : StOk st tt te) {x : V} {acc : List V} {Nx : List V → Prop} (t : Turn X scope tg st vs σ H x acc Nx) {d : Addr} (hd : H d = none) (hz : acc.length < 100000) {H4 : Hp} (x4 : Ex (upd H d (.lst acc)) H4) {G : Hp → Prop}
    (k : ∀ acc' H5, acc'.length ≤ acc.length + 1 → Nx acc' → Ex (upd H d (.lst acc')) H5 → G H5) :
    gB X scope tg x (wipe σ vs) H4 fun σ2 H2 => wipe σ2 vs = wipe σ vs ∧ tt σ2 H2 fun b H3 => if b = true then te σ2 H3 fun y H5 => ∃ acc, H5 d = some (.lst acc) ∧ acc.length < sizeLine ∧ G (upd H5 d (.lst (acc ++ [y]))) else G H3 := fun s H0 C cl fp =>
  (t d hd s H0 C cl fp).t x4 fun σ2 H2 ⟨H3, x3, e, w⟩ => ⟨e, by
    refine ok σ2 H3 _ w H2 x3 (fun oy H5 => match oy with | some y => ∃ acc, H5 d = some (.lst acc) ∧ acc.length < sizeLine ∧ G (upd H5 d (.lst (acc ++ [y]))) | none => G H5) fun oy H5 ⟨H6, x6, x7, n⟩ => ?_
    cases oy with
    | some y =>
      refine ⟨acc, (x7.trans x6) _ _ upd_same, Nat.lt_trans hz (by decide), k (acc ++ [y]) _ (by simp) n ?_⟩
      have z := (x7.trans x6).set d (.lst (acc ++ [y]))
      rw [upd_upd] at z
      exact z
    | none => exact k acc H5 (Nat.le_succ _) n (x7.trans x6)⟩
/-- over a list -/
theorem wl_list {st : Stp} (ok : StOk st tt te) (hl : EV X iter σ H (.ref q)) (hx : SqL X.K H q xs) (hn : xs.length ≤ 100000) (Pv : Nat → List V → Prop) (h0 : Pv 0 []) (turn : ∀ i x acc, xs[i]? = some x → Pv i acc → Turn X scope tg st vs σ H x acc (Pv (i + 1)))
    (done : ∀ ys p, Pv xs.length ys → ys.length ≤ xs.length → H p = none → Q (.ref p) (upd H p (.lst ys))) : WL X scope (iList X.K (tWE X iter)) tg tt te vs σ H Q := fun H1 x =>
  (hl.we (Q := fun v H' => v = .ref q ∧ H' = H) ⟨rfl, rfl⟩).t x fun o H2 ⟨H2', x2, eo, eH⟩ => by
    subst eo; subst eH
    refine ⟨q, rfl, ⟨xs, x2.sqL hx⟩, fun D hD => lc_list (K := X.K) (a := q) (xs := xs) (fun i H4 => ∃ acc, acc.length ≤ i ∧ Pv i acc ∧ Ex (upd H2' D (.lst acc)) H4) ⟨[], Nat.le_refl _, h0, x2.set D _⟩ (fun i H4 hi ⟨acc, _, _, x4⟩ => x4.sqL ((Ex.put (x2.free hD)).sqL hx)) (fun i y H4 hi ⟨acc, ha, p, x4⟩ => ?_) fun H4 ⟨acc, ha, p, x4⟩ => ⟨_, x4, done acc D p ha (x2.free hD)⟩⟩
    have hlt : i < xs.length := (List.getElem?_eq_some_iff.mp hi).1
    exact (turn i y acc hi p).run ok (x2.free hD) (by omega) x4 fun acc' H5 hl n x5 => ⟨acc', by omega, n, x5⟩
theorem wl_tup {st : Stp} (ok : StOk st tt te) (hl : EV X iter σ H (.ref q)) (hx : SqT X.K H q xs) (hn : xs.length ≤ 100000) (Pv : Nat → List V → Prop) (h0 : Pv 0 []) (turn : ∀ i x acc, xs[i]? = some x → Pv i acc → Turn X scope tg st vs σ H x acc (Pv (i + 1)))
    (done : ∀ ys p, Pv xs.length ys → ys.length ≤ xs.length → H p = none → Q (.ref p) (upd H p (.lst ys))) : WL X scope (iTup X.K (tWE X iter)) tg tt te vs σ H Q := fun H1 x =>
  (hl.we (Q := fun v H' => v = .ref q ∧ H' = H) ⟨rfl, rfl⟩).t x fun o H2 ⟨H2', x2, eo, eH⟩ => by
    subst eo; subst eH
    refine ⟨q, rfl, ⟨xs, x2.sqT hx⟩, fun D hD => lc_tup (K := X.K) (a := q) (xs := xs) (fun i H4 => ∃ acc, acc.length ≤ i ∧ Pv i acc ∧ Ex (upd H2' D (.lst acc)) H4) ⟨[], Nat.le_refl _, h0, x2.set D _⟩ (fun i H4 hi ⟨acc, _, _, x4⟩ => x4.sqT ((Ex.put (x2.free hD)).sqT hx)) (fun i y H4 hi ⟨acc, ha, p, x4⟩ => ?_) fun H4 ⟨acc, ha, p, x4⟩ => ⟨_, x4, done acc D p ha (x2.free hD)⟩⟩
    have hlt : i < xs.length := (List.getElem?_eq_some_iff.mp hi).1
    exact (turn i y acc hi p).run ok (x2.free hD) (by omega) x4 fun acc' H5 hl n x5 => ⟨acc', by omega, n, x5⟩
/-- over range(n) -/
theorem wl_rng {st : Stp} {a : Expr} {n : Int} (ok : StOk st tt te) (ha : EA X [a] σ H [.int n]) (hn : n ≤ 100000) (hn0 : -1000000 ≤ n) (Pv : Nat → List V → Prop) (h0 : Pv 0 []) (turn : ∀ (i : Nat) acc, (i : Int) < n → Pv i acc → Turn X scope tg st vs σ H (.int i) acc (Pv (i + 1)))
    (done : ∀ ys p, Pv n.toNat ys → ys.length ≤ n.toNat → H p = none → Q (.ref p) (upd H p (.lst ys))) : WL X scope (iRng1 (tWA X [a])) tg tt te vs σ H Q := fun H1 x =>
  (ha.wa (QA := fun v H' => v = [.int n] ∧ H' = H) ⟨rfl, rfl⟩).t x fun o H2 ⟨H2', x2, eo, eH⟩ => by
    subst eo; subst eH
    refine ⟨n, rfl, by omega, by omega, fun D hD => lc_range (lo := 0) (n := n.toNat) (fun i H4 => ∃ acc, acc.length ≤ i ∧ Pv i acc ∧ Ex (upd H2' D (.lst acc)) H4) ⟨[], Nat.le_refl _, h0, x2.set D _⟩ (fun i H4 hi ⟨acc, ha, p, x4⟩ => ?_) fun H4 ⟨acc, ha, p, x4⟩ => ⟨_, x4, done acc D p ha (x2.free hD)⟩⟩
    rw [Int.zero_add]
    exact (turn i acc (by omega) p).run ok (x2.free hD) (by omega) x4 fun acc' H5 hl n x5 => ⟨acc', by omega, n, x5⟩
theorem wl_rng2 {st : Stp} {a b : Expr} {l n : Int} (ok : StOk st tt te) (ha : EA X [a, b] σ H [.int l, .int n]) (hn : n - l ≤ 100000) (hb : -(2 ^ 62) ≤ l ∧ l < 2 ^ 62 ∧ -(2 ^ 62) ≤ n ∧ n < 2 ^ 62) (Pv : Nat → List V → Prop) (h0 : Pv 0 []) (turn : ∀ (i : Nat) acc, l + (i : Int) < n → Pv i acc → Turn X scope tg st vs σ H (.int (l + i)) acc (Pv (i + 1)))
    (done : ∀ ys p, Pv (n - l).toNat ys → ys.length ≤ (n - l).toNat → H p = none → Q (.ref p) (upd H p (.lst ys))) : WL X scope (iRng2 (tWA X [a, b])) tg tt te vs σ H Q := fun H1 x =>
  (ha.wa (QA := fun v H' => v = [.int l, .int n] ∧ H' = H) ⟨rfl, rfl⟩).t x fun o H2 ⟨H2', x2, eo, eH⟩ => by
    subst eo; subst eH
    refine ⟨l, n, rfl, hb, fun D hD => lc_range (lo := l) (n := (n - l).toNat) (fun i H4 => ∃ acc, acc.length ≤ i ∧ Pv i acc ∧ Ex (upd H2' D (.lst acc)) H4) ⟨[], Nat.le_refl _, h0, x2.set D _⟩ (fun i H4 hi ⟨acc, ha, p, x4⟩ => ?_) fun H4 ⟨acc, ha, p, x4⟩ => ⟨_, x4, done acc D p ha (x2.free hD)⟩⟩
    exact (turn i acc (by omega) p).run ok (x2.free hD) (by omega) x4 fun acc' H5 hl n x5 => ⟨acc', by omega, n, x5⟩
end
/-! ## repr of data -/
mutual
def fits : PyData → Prop
  | .none => True
  | .bool _ => True
  | .int i => i.natAbs < 10 ^ 120
  | .str x => ∀ c ∈ x.cps.toList, c < 4294967296
  | .list xs => fitsAll xs
  | .tuple xs => fitsAll xs
  | .dict _ => False
def fitsAll : List PyData → Prop
  | [] => True
  | x :: xs => fits x ∧ fitsAll xs
end
theorem int_shown {i : Int} (h : i.natAbs < 10 ^ 120) : (PyData.shown (.int i)).length ≤ 130 := by
  have e := int_text_length_le10 (k := 120) (by decide) h
  show (Str.ofString (toString i)).length ≤ 130
  rw [PySem.ofString_length]
  omega
theorem int_log {i : Int} (h : i.natAbs < 10 ^ 120) : i.natAbs.log2 < 1920 := by
  by_cases z : i.natAbs = 0
  · rw [z]; decide
  · exact (Nat.log2_lt z).mpr (Nat.lt_of_lt_of_le h (by decide +kernel))
mutual
theorem fits.short : ∀ d : PyData, fits d → d.leavesShort 130 = true ∧ d.showable = true ∧ d.hasDict = false
  | .none, _ => ⟨by simp only [PyData.leavesShort], by simp only [PyData.showable], by simp only [PyData.hasDict]⟩
  | .bool _, _ => ⟨by simp only [PyData.leavesShort], by simp only [PyData.showable], by simp only [PyData.hasDict]⟩
  | .int i, h => by
    have h : i.natAbs < 10 ^ 120 := by simpa only [fits] using h
    exact ⟨by simp only [PyData.leavesShort]; exact decide_eq_true (int_shown h), by simp only [PyData.showable]; exact decide_eq_true (int_log h), by simp only [PyData.hasDict]⟩
  | .str x, h => by
    have h : ∀ c ∈ x.cps.toList, c < 4294967296 := by simpa only [fits] using h
    exact ⟨by simp only [PyData.leavesShort, List.all_eq_true, decide_eq_true_eq]; exact h, by simp only [PyData.showable], by simp only [PyData.hasDict]⟩
  | .list xs, h => by
    have q := fitsAll.short xs (by simpa only [fits] using h)
    exact ⟨by simp only [PyData.leavesShort]; exact q.1, by simp only [PyData.showable]; exact q.2.1, by simp only [PyData.hasDict]; exact q.2.2⟩
  | .tuple xs, h => by
    have q := fitsAll.short xs (by simpa only [fits] using h)
    exact ⟨by simp only [PyData.leavesShort]; exact q.1, by simp only [PyData.showable]; exact q.2.1, by simp only [PyData.hasDict]; exact q.2.2⟩
  | .dict _, h => by simp only [fits] at h
theorem fitsAll.short : ∀ ds : List PyData, fitsAll ds → PyData.leavesShortAll 130 ds = true ∧ PyData.showableAll ds = true ∧ PyData.hasDictAll ds = false
  | [], _ => ⟨by simp only [PyData.leavesShortAll], by simp only [PyData.showableAll], by simp only [PyData.hasDictAll]⟩
  | d :: ds, h => by
    have h : fits d ∧ fitsAll ds := by simpa only [fitsAll] using h
    have q := fits.short d h.1
    have r := fitsAll.short ds h.2
    exact ⟨by simp only [PyData.leavesShortAll, Bool.and_eq_true]; exact ⟨q.1, r.1⟩, by simp only [PyData.showableAll, Bool.and_eq_true]; exact ⟨q.2.1, r.2.1⟩, by simp only [PyData.hasDictAll, Bool.or_eq_false_iff]; exact ⟨q.2.2, r.2.2⟩⟩
end
/-- data that repr can tell -/
structure RpOk (d : PyData) : Prop where
  f : fits d
  b : d.bulk ≤ 20000
  p : d.depth ≤ 60
theorem RpOk.len {d : PyData} (h : RpOk d) : d.shown.length ≤ 2640130 := by
  have := PyData.shown_le_bulk 130 (by decide) d (fits.short d h.f).1
  have b := h.b
  omega
mutual
theorem Dp.ex {K : PySem.W.Frag} {H H' : Hp} (x : Ex H H') : ∀ {v : V} {d : PyData}, Dp K H v d → Dp K H' v d
  | _, _, .non => .non
  | _, _, .bl b => .bl b
  | _, _, .int i => .int i
  | _, _, .str y => .str y
  | _, _, .lst h a => .lst (x.sqL h) (DpAll.ex x a)
  | _, _, .tup h a => .tup (x.sqT h) (DpAll.ex x a)
theorem DpAll.ex {K : PySem.W.Frag} {H H' : Hp} (x : Ex H H') : ∀ {vs : List V} {ds : List PyData}, DpAll K H vs ds → DpAll K H' vs ds
  | _, _, .nil => .nil
  | _, _, .cons h a => .cons (Dp.ex x h) (DpAll.ex x a)
end
section
variable {X : Cx} {W : WX} {k : Nat} {H : Hp} {v : V} {d : PyData}
def rRepr (K : PySem.W.Frag) : List V → Hp → VK → Prop := fun xs H Q => ∃ v d, xs = [v] ∧ Dp K H v d ∧ RpOk d ∧ Q (.str d.shown) H
theorem call_repr (c : Cn X W k) : CallR X (.builtin "repr") (rRepr X.K) := by
  intro pins s σ H xs us Q I r h
  obtain ⟨v, d, rfl, hd, ok, q⟩ := h
  obtain ⟨u, rfl, ru⟩ := r.one
  obtain ⟨as, rd⟩ := Dp.reads I d v u hd ru
  have z := fits.short d ok.f
  have len : d.shown.length ≤ sizeLine := Nat.le_trans ok.len (by decide)
  have room : X.A.units + (d.depth + 1) < cLine := by
    have := c.room.units
    have := ok.p
    omega
  have fin : ∀ h' t tk, (∀ b o, s.heap.get? b = some o → h'.get? b = some o) → EP X pins σ Q (.str d.shown t) { s with heap := h', toks := tk } := fun h' t tk hk =>
    ⟨.str d.shown, H, I.kept (fun b o e => hk b o e), ⟨t, rfl⟩, q⟩
  cases rd with
  | none => exact PySem.P.repr_of_none (fin s.heap _ _ fun _ _ e => e)
  | bool b => exact PySem.P.repr_of_bool (fin s.heap _ _ fun _ _ e => e)
  | int i t => exact PySem.P.repr_of_int (by simpa [PyData.showable] using z.2.1) (fin s.heap _ _ fun _ _ e => e)
  | str x t => exact PySem.P.repr_of_str (fin s.heap _ _ fun _ _ e => e) (by simpa only [PyData.shown] using len)
  | list h1 h2 h3 h4 => exact repr_of_reads' (.list h1 h2 h3 h4) z.2.1 (PyData.noDict_hsm z.2.2) c.gd room (fun _ _ e => e) fin len
  | tuple h1 h2 h3 h4 => exact repr_of_reads' (.tuple h1 h2 h3 h4) z.2.1 (PyData.noDict_hsm z.2.2) c.gd room (fun _ _ e => e) fin len
  | dict h1 h2 h3 h4 h5 => cases hd
theorem ec_repr (c : Cn X W k) (hd : Dp X.K H v d) (ok : RpOk d) : EC X (.builtin "repr") [v] H (.str d.shown) := ec_of (call_repr c) fun _ x _ q => ⟨v, d, rfl, Dp.ex x hd, ok, q⟩
end

/-! ## methods of lists, + -/
section
variable {X : Cx} {W : WX} {o e : Expr} {es : List Expr} {σ : St} {H : Hp} {Q : VK} {apos cpos : Pos} {l b : Addr} {xs zs : List V} {y : V}
theorem tyL {K : PySem.W.Frag} {H : Hp} {l : Addr} {xs : List V} (h : SqL K H l xs) : tyV K "list" (.ref l) H := .inl ⟨rfl, xs, h⟩
/-- o.append(e): the list may have changed while e was worked out -/
theorem we_append (ho : EV X o σ H (.ref l)) (hl : H l = some (.lst xs)) (he : WE X e σ H fun y H2 => ∃ ys, H2 l = some (.lst ys) ∧ ys.length ≤ 100000 ∧ Q .non (upd H2 l (.lst (ys ++ [y]))))
    (hbase : attributeBase o "append" X.env (eval o X.env) = eval o X.env := by rfl)
    (hfew : ((backTo cpos (starEach [e] X.env)).all (fun x => !x.1) && (backToKw cpos (keywordEach [] X.env)).all (fun x => x.1.isSome)
      && decide ([e].length + ([] : List Keyword).length + (if ([] : List Keyword).isEmpty then 0 else 1) < 30)) = true := by rfl)
    (hline : (apos.endLine == cpos.line) = true := by rfl) (hs : starEach [e] X.env = (false, eval e X.env) :: starEach [] X.env := by rfl) (hplain : (backTo cpos (starEach [] X.env)).any (·.1) = false := by rfl) :
    WE X (.Call (.Attribute o "append" apos) [e] [] cpos) σ H Q :=
  .of (pe_bm PySem.F.plainAttrs_list PySem.F.slot_list_append PySem.F.type_list_append mt_append pe_W (pa_cons pe_W pa_nil hs) hbase hfew hline hs hplain) fun H1 x =>
    (ho.we (Q := fun v H' => v = .ref l ∧ H' = H) ⟨rfl, rfl⟩).t x fun v H2 ⟨H3, x3, ev, eH⟩ => by
      subst ev; subst eH
      refine ⟨tyL (.inl (.inl (x3 _ _ hl))), he.t x3 fun y H4 ⟨H5, x5, ys, hy, hz, q⟩ => ⟨l, ys, y, rfl, rfl, x5 _ _ hy, Nat.lt_of_le_of_lt hz (by decide), _, x5.set l _, q⟩⟩
/-- o.extend(e) -/
theorem we_extend (ho : EV X o σ H (.ref l)) (hl : H l = some (.lst xs)) (he : WE X e σ H fun y H2 => ∃ b ys zs, y = .ref b ∧ H2 l = some (.lst ys) ∧ H2 b = some (.lst zs) ∧ ys.length + zs.length ≤ 1000000 ∧ Q .non (upd H2 l (.lst (ys ++ zs))))
    (hbase : attributeBase o "extend" X.env (eval o X.env) = eval o X.env := by rfl)
    (hfew : ((backTo cpos (starEach [e] X.env)).all (fun x => !x.1) && (backToKw cpos (keywordEach [] X.env)).all (fun x => x.1.isSome)
      && decide ([e].length + ([] : List Keyword).length + (if ([] : List Keyword).isEmpty then 0 else 1) < 30)) = true := by rfl)
    (hline : (apos.endLine == cpos.line) = true := by rfl) (hs : starEach [e] X.env = (false, eval e X.env) :: starEach [] X.env := by rfl) (hplain : (backTo cpos (starEach [] X.env)).any (·.1) = false := by rfl) :
    WE X (.Call (.Attribute o "extend" apos) [e] [] cpos) σ H Q :=
  .of (pe_bm PySem.F.plainAttrs_list PySem.F.slot_list_extend PySem.F.type_list_extend mt_extend pe_W (pa_cons pe_W pa_nil hs) hbase hfew hline hs hplain) fun H1 x =>
    (ho.we (Q := fun v H' => v = .ref l ∧ H' = H) ⟨rfl, rfl⟩).t x fun v H2 ⟨H3, x3, ev, eH⟩ => by
      subst ev; subst eH
      refine ⟨tyL (.inl (.inl (x3 _ _ hl))), he.t x3 fun y H4 ⟨H5, x5, b, ys, zs, ey, hy, hb, hz, q⟩ => ⟨l, b, ys, zs, rfl, by rw [ey], x5 _ _ hy, x5 _ _ hb, Nat.le_trans hz (by decide), _, x5.set l _, q⟩⟩
/-- the sum of two lists is a new list -/
theorem wo_cat (h1 : H l = some (.lst xs)) (h2 : H b = some (.lst zs)) (hz : xs.length + zs.length ≤ 1000000) (q : ∀ p, H p = none → Q (.ref p) (upd H p (.lst (xs ++ zs)))) : WO X (binaryOp .Add) (.ref l) (.ref b) H Q :=
  .of op_cat fun H1 x => ⟨l, b, xs, zs, rfl, rfl, x _ _ h1, x _ _ h2, Nat.le_trans hz (by decide), fun p hp => ⟨_, x.set p _, q p (x.free hp)⟩⟩
theorem ec_intB {k : Bool} : EC X (.type "int") [.bl k] H (.int (if k = true then 1 else 0)) := ec_of call_int1 fun _ _ _ q => .inr ⟨k, rfl, q⟩
theorem ec_intI {i : Int} : EC X (.type "int") [.int i] H (.int i) := ec_of call_int1 fun _ _ _ q => .inl ⟨i, rfl, q⟩
section
variable {D : Ends} {i j l : Nat} {x y z : Str} {a b c : Expr} {px py pz pt pos : Pos} {kt k2 pt2}
/-- a, b = x, y -/
theorem ws_par (hN : X.N.Nodup) (hi : X.N[i]? = some x) (hj : X.N[j]? = some y) (ha : WA X [a, b] σ H fun vs H1 => ∃ v w, vs = [v, w] ∧ D.nx ((σ.set i (some v)).set j (some w)) H1) (hij : i ≠ j := by decide) (hc : X.calm = true := by rfl)
    (hx : X.env.scope.names.lookup x = some .local := by rfl) (hy : X.env.scope.names.lookup y = some .local := by rfl)
    (hw : swappedStores [.Tuple [.Name x px, .Name y py] kt pt] (.Tuple [a, b] k2 pt2) X.env = pure (some [x, y]) := by rfl)
    (hs : swapsWithSole [.Tuple [.Name x px, .Name y py] kt pt] (.Tuple [a, b] k2 pt2) pos.line X.env = pure false := by rfl) :
    WS X (.Assign [.Tuple [.Name x px, .Name y py] kt pt] (.Tuple [a, b] k2 pt2) pos) D σ H :=
  .of (ps_par hc hN hi hj hij hx hy pa_W hw hs) fun H1 x1 => ha.t x1 fun vs H2 ⟨H3, x3, v, w, e, q⟩ => ⟨v, w, e, H3, x3, q⟩
theorem ws_par3 (hN : X.N.Nodup) (hi : X.N[i]? = some x) (hj : X.N[j]? = some y) (hl : X.N[l]? = some z) (ha : WA X [a, b, c] σ H fun vs H1 => ∃ u v w, vs = [u, v, w] ∧ D.nx (((σ.set i (some u)).set j (some v)).set l (some w)) H1)
    (hij : i ≠ j := by decide) (hil : i ≠ l := by decide) (hjl : j ≠ l := by decide) (hc : X.calm = true := by rfl)
    (hx : X.env.scope.names.lookup x = some .local := by rfl) (hy : X.env.scope.names.lookup y = some .local := by rfl) (hz : X.env.scope.names.lookup z = some .local := by rfl)
    (hw : swappedStores [.Tuple [.Name x px, .Name y py, .Name z pz] kt pt] (.Tuple [a, b, c] k2 pt2) X.env = pure (some [x, y, z]) := by rfl)
    (hs : swapsWithSole [.Tuple [.Name x px, .Name y py, .Name z pz] kt pt] (.Tuple [a, b, c] k2 pt2) pos.line X.env = pure false := by rfl) :
    WS X (.Assign [.Tuple [.Name x px, .Name y py, .Name z pz] kt pt] (.Tuple [a, b, c] k2 pt2) pos) D σ H :=
  .of (ps_par3 hc hN hi hj hl hij hil hjl hx hy hz pa_W hw hs) fun H1 x1 => ha.t x1 fun vs H2 ⟨H3, x3, u, v, w, e, q⟩ => ⟨u, v, w, e, H3, x3, q⟩
end
end
/-! ## sum of bools -/
def b2n (b : Bool) : Int := if b then 1 else 0
theorem b2n_le (b : Bool) : 0 ≤ b2n b ∧ b2n b ≤ 1 := by cases b <;> decide
theorem pre_bools (vl : Nat → Int) (h : ∀ j, 0 ≤ vl j ∧ vl j ≤ 1) : ∀ j : Nat, 0 ≤ preSum vl j ∧ preSum vl j ≤ j
  | 0 => by simp [preSum]
  | j + 1 => by
    have a := pre_bools vl h j
    have b := h j
    simp only [preSum]
    omega
section
variable {prog : Program} {w : World} {A : Around} {R : Result → Shared → Prop} {it : Addr} {fp wr : List Addr} {n : Nat} {P : Nat → Value → Prop} {St : Nat → Heap → Prop}
theorem sumB_loop (Wk : Walks prog w A.in1 it fp wr n P St) (vl : Nat → Int) (h01 : ∀ j, 0 ≤ vl j ∧ vl j ≤ 1) (hn : n ≤ 1000000) (hv : ∀ i v, P i v → ∃ b, v = .bool b ∧ vl i = b2n b) (S : Addr) (hS0 : S ∉ fp) :
    ∀ (k i : Nat) (s : Shared) (ta : Tok) (m : Nat), n - i = k → i ≤ n → St i s.heap → s.heap.get? S = some { cls := .type "list", data := .seq #[.int (preSum vl i) ta] m } →
    (∀ h' tk t', (∀ b o, b ∉ wr → b ≠ S → s.heap.get? b = some o → h'.get? b = some o) → R (.ok (.ret (.int (preSum vl n) t'))) { s with heap := h', toks := tk }) →
    codeAny (model prog w) A (.builtin "sum.loop" ⟨[.ref it, .ref S, rawInt 0, rawInt 0], []⟩) R s := by
  have hw : S ∉ wr := fun z => hS0 (Wk.sub _ z)
  intro k
  induction k with
  | zero =>
    intro i s ta m hk hi hst hs hR
    obtain rfl : i = n := by omega
    refine codeAny_builtin F.entry_sum_loop ?_
    rw [Around.under_plainId F.plain_sum_loop _]
    refine wpAny_bind (wpAny_seqItems hs rfl ?_)
    exact wpAny_bind (wpAny_tryCatch (Wk.done s _ _ hst fun h' tk kp => wpAny_pure (hR h' tk ta fun b o nb _ e => kp b o nb e)))
  | succ k ih =>
    intro i s ta m hk hi hst hs hR
    have lt : i < n := by omega
    refine codeAny_builtin F.entry_sum_loop ?_
    rw [Around.under_plainId F.plain_sum_loop _]
    refine wpAny_bind (wpAny_seqItems hs rfl ?_)
    refine wpAny_bind (wpAny_tryCatch (Wk.item i s _ _ lt hst fun v h' tk hp hst' kp => ?_))
    obtain ⟨b, rfl, eb⟩ := hv i v hp
    have hs' := kp S _ hw hs
    have q1 := pre_bools vl h01 i
    have q2 := h01 i
    cases b
    · have eb : vl i = 0 := eb
      have e1 : preSum vl i + 0 = preSum vl (i + 1) := by simp only [preSum]; rw [eb]
      have fit : ((decide (-(2 ^ 63) ≤ (0 : Int)) && decide ((0 : Int) < 2 ^ 63)) && (decide (-(2 ^ 63) ≤ preSum vl i + 0) && decide (preSum vl i + 0 < 2 ^ 63))) = true := by
        simp only [Bool.and_eq_true, decide_eq_true_eq]
        omega
      show wpAny _ A.in1 (if (_ : Bool) = true then (mkInt (preSum vl i + 0) >>= _) else _) _ _ _
      split
      · rename_i z
        exact absurd z (by decide)
      split
      · refine wpAny_bind (wpAny_mkInt ?_)
        show wpAny _ A.in1 (updateSeq S (fun _ => #[.int (preSum vl i + 0) tk]) >>= _) _ _ _
        rw [e1]
        refine wpAny_bind (wpAny_updateSeq hs' rfl (wpAny_pure ⟨plainId_quiet F.plain_sum_loop _, ih (i + 1) _ tk _ (by omega) lt (Wk.frame _ _ _ hst' fun b hb o e => ?_) (Heap.get?_update_self _ hs' rfl) fun h2 tk2 t2 kp2 => ?_⟩))
        · exact (Heap.get?_update_other _ _ (fun z : S = b => hS0 (by rw [z]; exact hb))).trans e
        · exact hR h2 tk2 t2 fun b o nb ns e => kp2 b o nb ns ((Heap.get?_update_other _ _ (Ne.symm ns)).trans (kp b o nb e))
      · rename_i no
        exact absurd fit no
    · have eb : vl i = 1 := eb
      have e1 : preSum vl i + 1 = preSum vl (i + 1) := by simp only [preSum]; rw [eb]
      have fit : ((decide (-(2 ^ 63) ≤ (1 : Int)) && decide ((1 : Int) < 2 ^ 63)) && (decide (-(2 ^ 63) ≤ preSum vl i + 1) && decide (preSum vl i + 1 < 2 ^ 63))) = true := by
        simp only [Bool.and_eq_true, decide_eq_true_eq]
        omega
      show wpAny _ A.in1 (if (_ : Bool) = true then (mkInt (preSum vl i + 1) >>= _) else _) _ _ _
      split
      case isFalse z => exact absurd rfl z
      split
      · refine wpAny_bind (wpAny_mkInt ?_)
        show wpAny _ A.in1 (updateSeq S (fun _ => #[.int (preSum vl i + 1) tk]) >>= _) _ _ _
        rw [e1]
        refine wpAny_bind (wpAny_updateSeq hs' rfl (wpAny_pure ⟨plainId_quiet F.plain_sum_loop _, ih (i + 1) _ tk _ (by omega) lt (Wk.frame _ _ _ hst' fun b hb o e => ?_) (Heap.get?_update_self _ hs' rfl) fun h2 tk2 t2 kp2 => ?_⟩))
        · exact (Heap.get?_update_other _ _ (fun z : S = b => hS0 (by rw [z]; exact hb))).trans e
        · exact hR h2 tk2 t2 fun b o nb ns e => kp2 b o nb ns ((Heap.get?_update_other _ _ (Ne.symm ns)).trans (kp b o nb e))
      · rename_i no
        exact absurd fit no
end
section
variable {prog : Program} {w : World} {A : Around} {E : Value → Shared → Prop} {s : Shared} {l : Addr} {bs : List Bool} {Q : Value → Shared → Prop}
theorem sum_vals (bs : List Bool) : preSum (fun i => b2n (bs.getD i false)) bs.length = (bs.map b2n).sum := by
  have key : ∀ (m : Nat) (bs : List Bool), bs.length = m → ∀ f : Nat → Int, (∀ i, i < m → f i = b2n (bs.getD i false)) → preSum f m = (bs.map b2n).sum := by
    intro m
    induction m with
    | zero =>
      intro bs hl f h
      rw [List.length_eq_zero_iff.mp hl]
      rfl
    | succ m ih =>
      intro bs hl f h
      have hne : bs ≠ [] := fun z => by rw [z] at hl; cases hl
      obtain ⟨cs, c, rfl⟩ : ∃ cs c, bs = cs ++ [c] := ⟨bs.dropLast, bs.getLast hne, (List.dropLast_concat_getLast hne).symm⟩
      have hl : cs.length = m := by simpa using hl
      rw [List.map_append, List.sum_append]
      simp only [preSum]
      rw [ih cs hl f fun i hi => by rw [h i (by omega)]; simp [List.getD_eq_getElem?_getD, List.getElem?_append_left (show i < cs.length by omega)]]
      rw [h m (by omega), ← hl]
      simp [List.getD_eq_getElem?_getD]
  exact key _ bs rfl _ fun _ _ => rfl
theorem sumB_call (hh : A.handled = none) (hl : s.heap.IsList l (bs.map Value.bool).toArray) (hn : bs.length ≤ 1000000)
    (h : ∀ h' tk t', (∀ b o, s.heap.get? b = some o → h'.get? b = some o) → Q (.int (bs.map b2n).sum t') { s with heap := h', toks := tk }) : wpAny (model prog w) A (call (.builtin "sum") [.ref l]) Q E s := by
  refine call_function_tree F.kind_sum F.plain_sum F.entry_sum (F.args_sum1 _) ?_
  unfold Builtin.«sum»
  simp only [List.length_cons, List.length_nil]
  rw [if_neg (by decide)]
  refine wpAny_bind (wpAny_of_eq (show Builtin.Builtins.bindParams "sum" ["start"] 0 { } = pure [none] from rfl) ?_)
  refine wpAny_bind (iter_any hl fun s2 e2 st ne => ?_)
  subst e2
  refine wpAny_bind (wpAny_mkInt (wpAny_bind (wpAny_pure ?_)))
  simp only [List.forIn_cons, List.forIn_nil]
  refine wpAny_bind (wpAny_bind (wpAny_bind (wpAny_isInstance (T := "int") (b := false) (typeIs_int _ _ _) PySem.sub_int_str ?_)))
  simp only [Bool.false_eq_true, if_false]
  refine wpAny_pure (wpAny_bind (wpAny_bind (wpAny_isInstance (T := "int") (b := false) (typeIs_int _ _ _) PySem.sub_int_bytes ?_)))
  simp only [Bool.false_eq_true, if_false]
  refine wpAny_pure (wpAny_bind (wpAny_bind (wpAny_isInstance (T := "int") (b := false) (typeIs_int _ _ _) PySem.sub_int_bytearray ?_)))
  simp only [Bool.false_eq_true, if_false]
  refine wpAny_pure (wpAny_pure (wpAny_bind (wpAny_newObj_type ?_)))
  have Wk := Walks.list (prog := prog) (w := w) (A := A.in1) hh s.heap.objs.size l ne (bs.map Value.bool).toArray
  have lt : l < s.heap.objs.size := by
    obtain ⟨_, e, _⟩ := hl
    exact Heap.lt_size e
  have nf : (s.heap.push { cls := .type "list_iterator", data := .fields #[.ref l, .int 0 0] }).objs.size ∉ [s.heap.objs.size, l] := by
    rw [Heap.size_push]
    simp only [List.mem_cons, List.not_mem_nil, or_false, not_or]
    exact ⟨fun z => Nat.succ_ne_self _ z, fun z => Nat.lt_irrefl _ (Nat.lt_trans (Nat.lt_succ_self _) (z ▸ lt))⟩
  refine wpAny_pure ⟨plainId_quiet F.plain_sum_loop _, sumB_loop Wk (fun i => b2n (bs.getD i false)) (fun j => b2n_le _) (by simpa using hn) (fun i v hp => ?_) _ nf _ 0 _ _ 0 rfl (Nat.zero_le _) (Wk.frame _ _ _ st fun b _ o e => Heap.get?_push_of_some _ e) (Heap.get?_push_size _ rfl) fun h' tk t' kp => ?_⟩
  · have hp : (bs.map Value.bool)[i]? = some v := by simpa using hp
    rw [List.getElem?_map] at hp
    obtain ⟨b, hb, rfl⟩ := Option.map_eq_some_iff.mp hp
    exact ⟨b, rfl, by rw [List.getD_eq_getElem?_getD, hb]; rfl⟩
  · have e : (bs.map Value.bool).toArray.size = bs.length := by simp
    rw [e, sum_vals]
    refine h h' tk t' fun b o eb => ?_
    have hb := Heap.lt_size eb
    exact kp b o (by simp only [List.mem_cons, List.not_mem_nil, or_false]; exact Nat.ne_of_lt hb) (by rw [Heap.size_push]; exact Nat.ne_of_lt (Nat.lt_succ_of_lt hb)) (Heap.get?_push_of_some _ (Heap.get?_push_of_some _ eb))
end
section
variable {X : Cx} {H : Hp} {p : Addr} {bs : List Bool}
theorem ec_sumB (h : SqL X.K H p (bs.map V.bl)) (hn : bs.length ≤ 1000000) (hc : X.calm = true := by rfl) : EC X (.builtin "sum") [.ref p] H (.int (bs.map b2n).sum) :=
  ec_of (r := fun xs H Q => ∃ p bs, xs = [V.ref p] ∧ SqL X.K H p (bs.map V.bl) ∧ bs.length ≤ 1000000 ∧ Q (.int (bs.map b2n).sum) H) (fun pins s σ H xs us Q I r ⟨p, bs, e, h, hn, q⟩ => by
    subst e
    obtain ⟨its, rv, hl, _⟩ := I.list h
    rw [Vals.ref1 r]
    have hb := rv.bls
    subst hb
    exact sumB_call (I.ok.hd hc) hl.isList hn fun h' tk t' kp => ⟨.int _, H, I.kept kp, ⟨_, rfl⟩, q⟩) fun _ e _ q => ⟨p, bs, rfl, e.sqL h, hn, q⟩
end
/-! ## plain laws of numbers -/
theorem pow_mono {n m : Nat} (h : n ≤ m) : (2 : Int) ^ n ≤ 2 ^ m := by
  have := Nat.pow_le_pow_right (n := 2) (by decide) h
  have h2 : ((2 ^ n : Nat) : Int) ≤ ((2 ^ m : Nat) : Int) := by omega
  simpa [Int.natCast_pow] using h2
theorem small_n {n : Int} (h0 : 0 ≤ n) (h : n < 1000000000000000000000000000000000000000000000000000000000000000) : n.natAbs < 2 ^ 100000 := by
  have e : (2 : Nat) ^ 240 = 1766847064778384329583297500742918515827483896875618958121606201292619776 := by decide +kernel
  refine Nat.lt_of_lt_of_le (show n.natAbs < 2 ^ 240 from ?_) (Nat.pow_le_pow_right (by decide) (by decide))
  rw [e]
  omega
def isPow (n : Int) : Bool := decide (0 < n) && decide (Builtin.bitAnd n (n - 1) = 0)
def pal (n : Int) : Int := 2 ^ Builtin.Int.intBits (if n - 1 > 0 then n - 1 else 0)
theorem pow_nat (k : Nat) : ((2 : Int) ^ k) = ((2 ^ k : Nat) : Int) := by simp [Int.natCast_pow]
theorem isPow_pow (k : Nat) : isPow ((2 : Int) ^ k) = true := by
  have hp : 0 < 2 ^ k := Nat.pow_pos (by decide)
  have e : ((2 ^ k : Nat) : Int) - 1 = ((2 ^ k - 1 : Nat) : Int) := by omega
  rw [pow_nat, isPow, e]
  have h : (2 ^ k) &&& (2 ^ k - 1) = 0 := by rw [Nat.and_two_pow_sub_one_eq_mod, Nat.mod_self]
  simp only [Builtin.bitAnd, Int.natCast_nonneg, decide_true, Int.toNat_natCast, h]
  generalize 2 ^ k = m at *
  simp; omega
theorem pal_facts {n : Int} (h0 : 0 ≤ n) : n ≤ pal n ∧ (pal n > 1 → pal n / 2 < n) := by
  unfold pal
  obtain ⟨n, rfl⟩ := Int.eq_ofNat_of_zero_le h0
  by_cases h1 : n ≤ 1
  · rw [if_neg (by omega)]
    have : Builtin.Int.intBits 0 = 0 := rfl
    rw [this]
    constructor <;> simp <;> omega
  · rw [if_pos (by omega)]
    have hz : ((n : Int) - 1) = ((n - 1 : Nat) : Int) := by omega
    rw [hz]
    have hb : Builtin.Int.intBits ((n - 1 : Nat) : Int) = (n - 1).log2 + 1 := by
      unfold Builtin.Int.intBits
      rw [if_neg (by simp; omega)]
      rfl
    rw [hb, pow_nat]
    have l1 : n - 1 < 2 ^ ((n - 1).log2 + 1) := Nat.lt_log2_self
    have l2 : 2 ^ (n - 1).log2 ≤ n - 1 := Nat.log2_self_le (by omega)
    have e : 2 ^ ((n - 1).log2 + 1) = 2 * 2 ^ (n - 1).log2 := by rw [Nat.pow_succ, Nat.mul_comm]
    have l2' : 2 ^ ((n - 1).log2 + 1) ≤ 2 * (n - 1) := by rw [e]; omega
    clear l2 e
    generalize 2 ^ ((n - 1).log2 + 1) = m at *
    constructor
    · omega
    · intro _; omega
def VerOk (v : Int) : Prop := 0 ≤ v ∧ v < 1000000000000000000000000000000000000000000000000000000000000
theorem shl_bound {d s : Int} (d0 : 0 ≤ d) (d1 : d < 1000) (s0 : 0 ≤ s) (s1 : s < 180) : 0 ≤ d * 2 ^ s.toNat ∧ d * 2 ^ s.toNat < 1000 * 2 ^ 180 := by
  obtain ⟨n, rfl⟩ := Int.eq_ofNat_of_zero_le s0
  have hp : (0 : Int) < 2 ^ n := Int.pow_pos (by decide)
  have hn : n ≤ 180 := by omega
  have hle : (2 : Int) ^ n ≤ 2 ^ 180 := pow_mono hn
  rw [Int.toNat_natCast]
  exact ⟨Int.mul_nonneg d0 (Int.le_of_lt hp), Int.lt_of_lt_of_le (Int.mul_lt_mul_of_pos_right d1 hp) (Int.mul_le_mul_of_nonneg_left hle (by decide))⟩
/-- an int that is at least so much -/
def numAt (least : Int) : V → Bool
  | .int i => decide (least ≤ i)
  | _ => false
theorem bits_nat {i : Int} : ((Builtin.Int.intBits i : Nat) : Int).toNat = Builtin.Int.intBits i := Int.toNat_natCast _

/-- the lowest one of a number -/
def lowb (v : Int) : Int := Builtin.bitAnd v (-v)
theorem and_two (a b c d : Nat) (hb : b < 2) (hd : d < 2) : (2 * a + b) &&& (2 * c + d) = 2 * (a &&& c) + (b &&& d) := by
  have q : ((2 * a + b) &&& (2 * c + d)) / 2 = a &&& c := by
    rw [Nat.and_div_two, show (2 * a + b) / 2 = a by omega, show (2 * c + d) / 2 = c by omega]
  have r : ((2 * a + b) &&& (2 * c + d)) % 2 = b &&& d := by
    have := Nat.and_mod_two_pow (a := 2 * a + b) (b := 2 * c + d) (n := 1)
    rw [show (2 : Nat) ^ 1 = 2 from rfl] at this
    rw [this, show (2 * a + b) % 2 = b by omega, show (2 * c + d) % 2 = d by omega]
  omega
theorem and_pred (m : Nat) : ∀ j : Nat, (2 ^ j * (2 * m + 1)) &&& (2 ^ j * (2 * m + 1) - 1) = 2 ^ j * (2 * m)
  | 0 => by
    rw [Nat.pow_zero, Nat.one_mul, Nat.one_mul, Nat.add_sub_cancel]
    have := and_two m 1 m 0 (by decide) (by decide)
    rw [Nat.and_self] at this
    exact this
  | j + 1 => by
    have ih := and_pred m j
    have hp : 0 < 2 ^ j * (2 * m + 1) := Nat.mul_pos (Nat.pow_pos (by decide)) (Nat.succ_pos _)
    have e1 : 2 ^ (j + 1) * (2 * m + 1) = 2 * (2 ^ j * (2 * m + 1)) := by rw [Nat.pow_succ, Nat.mul_comm (2 ^ j) 2, Nat.mul_assoc]
    have e2 : 2 ^ (j + 1) * (2 * m) = 2 * (2 ^ j * (2 * m)) := by rw [Nat.pow_succ, Nat.mul_comm (2 ^ j) 2, Nat.mul_assoc]
    rw [e1, e2, ← ih]
    generalize 2 ^ j * (2 * m + 1) = u at hp ⊢
    have := and_two u 0 (u - 1) 1 (by decide) (by decide)
    rw [Nat.add_zero, show 2 * (u - 1) + 1 = 2 * u - 1 by omega] at this
    rw [this]
    rfl
theorem lowb_nat {n : Nat} (h : 0 < n) : lowb (n : Int) = (n : Int) - ((n &&& (n - 1) : Nat) : Int) := by
  unfold lowb Builtin.bitAnd
  have e1 : decide (0 ≤ (n : Int)) = true := by simp
  have e2 : decide (0 ≤ -(n : Int)) = false := by simp; omega
  rw [e1, e2]
  have e3 : (Builtin.bitNot (-(n : Int))).toNat = n - 1 := by unfold Builtin.bitNot; omega
  show (n : Int) - (((n : Int).toNat &&& (Builtin.bitNot (-(n : Int))).toNat : Nat) : Int) = _
  rw [e3, Int.toNat_natCast]
/-- the power of two that divides, while its double does not -/
theorem lowb_is {v : Int} {j : Nat} (h0 : 0 < v) (h1 : v % (2 ^ j : Int) = 0) (h2 : v % (2 * 2 ^ j : Int) ≠ 0) : lowb v = 2 ^ j := by
  obtain ⟨n, rfl⟩ := Int.eq_ofNat_of_zero_le (Int.le_of_lt h0)
  have h0 : 0 < n := by omega
  have p : (2 : Int) ^ j = ((2 ^ j : Nat) : Int) := by simp [Int.natCast_pow]
  rw [p] at h1 h2 ⊢
  have h1 : n % 2 ^ j = 0 := by have : ((n % 2 ^ j : Nat) : Int) = 0 := by rw [Int.natCast_emod]; exact h1
                                omega
  have h2 : n % (2 * 2 ^ j) ≠ 0 := fun z => h2 (by
    have : ((n % (2 * 2 ^ j) : Nat) : Int) = 0 := by rw [z]; rfl
    rw [Int.natCast_emod, Int.natCast_mul] at this
    exact this)
  obtain ⟨q, rfl⟩ := Nat.dvd_of_mod_eq_zero h1
  have ho : q % 2 = 1 := by
    rcases Nat.mod_two_eq_zero_or_one q with z | z
    · refine absurd ?_ h2
      obtain ⟨r, rfl⟩ := Nat.dvd_of_mod_eq_zero z
      rw [← Nat.mul_assoc, Nat.mul_comm (2 ^ j) 2, Nat.mul_mod_right]
    · exact z
  obtain ⟨m, rfl⟩ : ∃ m, q = 2 * m + 1 := ⟨q / 2, by omega⟩
  rw [lowb_nat h0, and_pred m j, Nat.mul_add, Nat.mul_one]
  omega
theorem pow_dvd_le {v : Int} {j : Nat} (h0 : 0 < v) (h1 : v % (2 ^ j : Int) = 0) : (2 : Int) ^ j ≤ v := Int.le_of_dvd h0 (Int.dvd_of_emod_eq_zero h1)
/-- the order of the versions -/
def precB (v o : Int) : Bool := if (decide (v = 0) || decide (o = 0)) = true then decide (v = 0) && decide (o > 0) else if lowb v = lowb o then decide (v > o) else decide (lowb v > lowb o)
theorem blk_fx {P : Program} {w : World} {K : PySem.W.Frag} {mg : Str → Option Value} {base : Heap} {N : List Str} {n : Str} {st : Stmt} {f : Addr} {cd : Value} {A : Around} {outer : List Env} {s : Shared} {H : Hp} {E : XK} {scope : Scope} {own : List (Str × Nat)} (h : blkC N (defScope st) scope own = true) : blkC (fx P w K mg base N n st f cd A outer s H E).N (fx P w K mg base N n st f cd A outer s H E).env.scope scope own = true := h
def Num (v : V) : Prop := ∃ n : Int, v = .int n ∧ 0 ≤ n ∧ n < 1000000000000000000000000000000000000000000000000000000000000000
theorem VerOk.num {v : Int} (h : VerOk v) : Num (.int v) := ⟨v, rfl, h.1, by have := h.2; omega⟩
theorem lowb_le {n : Int} (h : 0 < n) : 0 ≤ lowb n ∧ lowb n ≤ n := by
  obtain ⟨m, rfl⟩ := Int.eq_ofNat_of_zero_le (Int.le_of_lt h)
  rw [lowb_nat (by omega)]
  have := Nat.and_le_left (n := m) (m := m - 1)
  omega
theorem prec_trans {a b c : Int} (a0 : 0 ≤ a) (b0 : 0 ≤ b) (c0 : 0 ≤ c) (h1 : precB a b = true) (h2 : precB b c = true) : precB a c = true := by
  unfold precB at *
  by_cases za : a = 0
  · by_cases zb : b = 0
    · simp [za, zb] at h1
    · by_cases zc : c = 0
      · simp [zb, zc] at h2
      · simp [za]; omega
  · by_cases zb : b = 0
    · simp [za, zb] at h1
    · by_cases zc : c = 0
      · simp [zb, zc] at h2
      · simp [za, zb] at h1
        simp [zb, zc] at h2
        simp [za, zc]
        split at h1 <;> split at h2 <;> split <;> (try simp only [decide_eq_true_eq] at *) <;> omega
theorem all_rep (n : Nat) : (List.replicate n true).all id = true := by simp
theorem numAt_bad {a : Int} (h : 0 ≤ a) (z : numAt 0 (.int a) = false) : False := by
  simp [numAt] at z
  omega
theorem numAt_bad2 {a b : Int} (ha : 0 ≤ a) (hb : 0 ≤ b) (z : numAt 0 (.int a) = false ∨ numAt 0 (.int b) = false) : False := z.elim (numAt_bad ha) (numAt_bad hb)
/-! ## calls with keywords, defaults -/
section
variable {X : Cx} {W : WX} {e : Expr} {es : List Expr} {kws : List Keyword} {σ : St} {H H1 : Hp} {Q : VK} {QA QA1 : List V → Hp → Prop} {nm : Option Str} {kpos : Pos} {v : V} {vs : List V}
/-- the keywords' values -/
def WK (X : Cx) (kws : List Keyword) (σ : St) (H : Hp) (Q : List V → Hp → Prop) : Prop :=
  ∀ H1, Ex H H1 → ∀ pos pins s, Inv X pins σ H1 s → wpAny (model X.prog X.w) X.A (evalAll ((backToKw pos (keywordEach kws X.env)).map (·.2))) (AP X pins σ (upA Q)) X.xe s
def tWK (X : Cx) (kws : List Keyword) : TA := fun σ H1 Q1 => ∃ H Q, Ex H H1 ∧ WK X kws σ H Q ∧ ∀ v H2, upA Q v H2 → Q1 v H2
theorem pk_W : PK X kws (tWK X kws) := ⟨fun pos pins s σ H1 Q1 I ⟨H, Q, x, w, k⟩ => thn (w H1 x pos pins s I) fun u s' ⟨v, H2, I2, r, q⟩ => ⟨v, H2, I2, r, k v H2 q⟩⟩
theorem WK.of {t : TA} (h : PK X kws t) (q : ∀ H1, Ex H H1 → t σ H1 (upA QA)) : WK X kws σ H QA := fun H1 x pos pins s I => h.run pos pins s σ H1 _ I (q H1 x)
theorem WK.t (w : WK X kws σ H QA) (x : Ex H H1) (k : ∀ v H2, upA QA v H2 → QA1 v H2) : tWK X kws σ H1 QA1 := ⟨H, QA, x, w, k⟩
theorem wk_nil (q : QA [] H) : WK X [] σ H QA := .of pk_nil fun H1 x => ⟨H, x, q⟩
theorem wk_cons (h : WE X e σ H fun x H1 => WK X kws σ H1 fun xs H2 => QA (x :: xs) H2) : WK X (⟨nm, e, kpos⟩ :: kws) σ H QA :=
  .of (pk_cons pe_W pk_W) fun H1 x => h.t x fun v H2 ⟨H3, x3, w⟩ => w.t x3 fun _ _ q => q
def EK (X : Cx) (kws : List Keyword) (σ : St) (H : Hp) (vs : List V) : Prop := ∀ H1, Ex H H1 → ∀ Q : List V → Hp → Prop, Q vs H1 → WK X kws σ H1 Q
theorem EK.wk (h : EK X kws σ H vs) (q : QA vs H) : WK X kws σ H QA := h H (Ex.refl H) QA q
theorem ek_nil : EK X [] σ H [] := fun H1 x Q q => wk_nil q
theorem ek_cons (ha : EV X e σ H v) (hr : EK X kws σ H vs) : EK X (⟨nm, e, kpos⟩ :: kws) σ H (v :: vs) := fun H1 x Q q => wk_cons (ha H1 x _ (hr H1 x _ q))
end
/-- a def called with m positional values and the keywords ks; gV: the values in the parameters' order -/
structure CalK (P : Program) (w : World) (K : PySem.W.Frag) (mg : Str → Option Value) (base : Heap) (n : Str) (k m : Nat) (ks : List Str) (gV : List V → List V → List V) (sp : Sp) : Prop where
  ex : ∃ (f : Addr) (fd : FuncData) (ps : List Str) (g : List Value → List Value → List Value), FnG P w K mg base k f fd ps sp ∧ mg n = some (.ref f) ∧ PySem.W.keepIn K (.ref f) = true ∧ KBn K fd ps m ks g gV
section
variable {X : Cx} {W : WX} {e : Expr} {es : List Expr} {kws : List Keyword} {σ : St} {H H1 : Hp} {Q : VK} {E : XK} {v : V} {vs zs : List V} {n : Str} {k j m : Nat} {f : Addr} {fd : FuncData} {ps ks : List Str} {sp : Sp} {us ws : List Value} {p pos : Pos} {pins : List (Addr × Obj)} {s : Shared} {g : List Value → List Value → List Value} {gV : List V → List V → List V}
theorem run_fngN (F : FnG X.prog X.w X.K X.mg X.base k f fd ps sp) (c : Cn X W k) (hb : KBn X.K fd ps m ks g gV) (I : Inv X pins σ H1 s) (x : Ex H H1) (r : Vals vs us) (rz : Vals zs ws) (l1 : vs.length = m) (l2 : zs.length = ks.length) (h : sp (gV vs zs) H Q fun c d H' => W c d σ H') :
    wpAny (model X.prog X.w) X.A (call (.ref f) us (ks.zip ws)) (EP X pins σ (up Q)) X.xe s := by
  have r2 := hb.rel r rz
  refine wpAny_call (codeAny_mono (F.run X.A X.stack s H1 ⟨us, ks.zip ws⟩ (g us ws) (gV vs zs) H Q _ c.room c.gd I.env0 (hb.to s us ws I.kIn (r.length.symm.trans l1) (rz.length.symm.trans l2)) r2 x h) fun res s' q => ?_)
  rcases res with er | fl
  · exact c.tk er s' (XE.of_call I (fun cl d H' ⟨H2, x2, q2⟩ => c.wu _ _ _ _ _ q2 x2) q)
  · cases fl with
    | ret u => exact I.after q
    | _ => exact q.elim
/-- f(e, .., k = v, ..) -/
theorem we_callK (C : CalK X.prog X.w X.K X.mg X.base n k m ks gV sp) (c : Cn X W j) (ha : WA X (e :: es) σ H fun vs H1 => WK X kws σ H1 fun zs H2 => vs.length = m ∧ zs.length = ks.length ∧ sp (gV vs zs) H2 Q fun c d H' => W c d σ H') (hkj : k ≤ j := by decide) (hg : Gl X n := by rfl)
    (hall : (backToKw pos (keywordEach kws X.env)).all (·.1.isSome) = true := by rfl) (hks : (backToKw pos (keywordEach kws X.env)).filterMap (·.1) = ks := by rfl)
    (hdb : (n == ("__debug__" : Str)) = false := by decide) (he : starEach (e :: es) X.env = (false, eval e X.env) :: starEach es X.env := by rfl)
    (hpl : ((backTo pos (starEach (e :: es) X.env)).any (·.1) || (backToKw pos (keywordEach kws X.env)).any (·.1.isNone)) = false := by rfl) : WE X (.Call (.Name n p) (e :: es) kws pos) σ H Q := by
  obtain ⟨f, fd, ps, g, F, hm, hk, hb⟩ := C.ex
  intro H1 x pins s I
  refine wpAny_Call_Name_kw (ld_glob I hg hm ?_ hdb)
  refine PySem.W.callWith_KW (h₀ := X.base) I.ok.mod.kin hk hall (thn (ha H1 x pos pins s I) fun us s1 ⟨vs, H2, I2, r, H3, x3, q⟩ => ?_) hpl he
  refine thn (q H2 x3 pos pins s1 I2) fun ws s2 ⟨zs, H4, I4, rz, H5, x5, l1, l2, q2⟩ => ⟨I4.kIn, ?_⟩
  rw [hks]
  exact run_fngN F (c.mono hkj) hb I4 x5 r rz l1 l2 q2
theorem we_callK0 (C : CalK X.prog X.w X.K X.mg X.base n k 0 ks gV sp) (c : Cn X W j) (ha : WK X kws σ H fun zs H2 => zs.length = ks.length ∧ sp (gV [] zs) H2 Q fun c d H' => W c d σ H') (hkj : k ≤ j := by decide) (hg : Gl X n := by rfl)
    (hall : (backToKw pos (keywordEach kws X.env)).all (·.1.isSome) = true := by rfl) (hks : (backToKw pos (keywordEach kws X.env)).filterMap (·.1) = ks := by rfl)
    (hdb : (n == ("__debug__" : Str)) = false := by decide) (hpl : ((backTo pos (starEach [] X.env)).any (·.1) || (backToKw pos (keywordEach kws X.env)).any (·.1.isNone)) = false := by rfl) : WE X (.Call (.Name n p) [] kws pos) σ H Q := by
  obtain ⟨f, fd, ps, g, F, hm, hk, hb⟩ := C.ex
  intro H1 x pins s I
  refine wpAny_Call_Name_kw (ld_glob I hg hm ?_ hdb)
  refine PySem.W.callWith_KW0 (h₀ := X.base) I.ok.mod.kin hk hall ?_ hpl
  refine thn (ha H1 x pos pins s I) fun ws s2 ⟨zs, H4, I4, rz, H5, x5, l2, q2⟩ => ⟨I4.kIn, ?_⟩
  rw [hks]
  exact run_fngN (us := []) (vs := []) F (c.mono hkj) hb I4 x5 .nil rz rfl l2 q2
theorem ev_callK (C : CalK X.prog X.w X.K X.mg X.base n k m ks gV sp) (c : Cn X W j) (ha : EA X (e :: es) σ H vs) (hz : EK X kws σ H zs) (h : vs.length = m ∧ zs.length = ks.length ∧ ∀ H1, Ex H H1 → ∀ Q E, Q v H1 → sp (gV vs zs) H1 Q E) (hkj : k ≤ j := by decide) (hg : Gl X n := by rfl)
    (hall : (backToKw pos (keywordEach kws X.env)).all (·.1.isSome) = true := by rfl) (hks : (backToKw pos (keywordEach kws X.env)).filterMap (·.1) = ks := by rfl)
    (hdb : (n == ("__debug__" : Str)) = false := by decide) (he : starEach (e :: es) X.env = (false, eval e X.env) :: starEach es X.env := by rfl)
    (hpl : ((backTo pos (starEach (e :: es) X.env)).any (·.1) || (backToKw pos (keywordEach kws X.env)).any (·.1.isNone)) = false := by rfl) : EV X (.Call (.Name n p) (e :: es) kws pos) σ H v := fun H1 x Q q =>
  we_callK C c (ha H1 x _ (hz H1 x _ ⟨h.1, h.2.1, h.2.2 H1 x Q _ q⟩)) hkj hg hall hks hdb he hpl
theorem ev_callK0 (C : CalK X.prog X.w X.K X.mg X.base n k 0 ks gV sp) (c : Cn X W j) (hz : EK X kws σ H zs) (h : zs.length = ks.length ∧ ∀ H1, Ex H H1 → ∀ Q E, Q v H1 → sp (gV [] zs) H1 Q E) (hkj : k ≤ j := by decide) (hg : Gl X n := by rfl)
    (hall : (backToKw pos (keywordEach kws X.env)).all (·.1.isSome) = true := by rfl) (hks : (backToKw pos (keywordEach kws X.env)).filterMap (·.1) = ks := by rfl)
    (hdb : (n == ("__debug__" : Str)) = false := by decide) (hpl : ((backTo pos (starEach [] X.env)).any (·.1) || (backToKw pos (keywordEach kws X.env)).any (·.1.isNone)) = false := by rfl) : EV X (.Call (.Name n p) [] kws pos) σ H v := fun H1 x Q q =>
  we_callK0 C c (hz H1 x _ ⟨h.1, h.2 H1 x Q _ q⟩) hkj hg hall hks hdb hpl
end
section
variable {P : Program} {w : World} {K : PySem.W.Frag} {mg : Str → Option Value} {base : Heap} {n : Str} {st : Stmt} {ps N : List Str} {k m : Nat} {sp : Sp} {ks : List Str} {kws : List (Str × V)}
/-- the same def, called with keywords: how they bind is told of its own text -/
theorem Cal.kw (C : Cal P w K mg base n k ps [] sp) (d : Def K mg n st ps) (m : Nat) (ks : List Str) (g : {α : Type} → List α → List α → List α) (hrel : ∀ {vs zs : List V} {us ws : List Value}, Vals vs us → Vals zs ws → Vals (g vs zs) (g us ws))
    (hb : ∀ (kV doc pm : Value) (an : Option Addr) (cdv ct : Value) (us ws : List Value), us.length = m → ws.length = ks.length → bindArgs (PySem.W.fnOf n n (defArgs st) (defBody st) (defScope st) .none kV doc pm an cdv ct) ⟨us, ks.zip ws⟩ = pure (ps.zip (g us ws))) : CalK P w K mg base n k m ks g sp := by
  obtain ⟨f, fd, ds, F, hm, hk, _, _, oc, od, osl, lk⟩ := C.ex
  obtain ⟨oc2, od2, kV, doc, pm, an, cd, ct, osl2, e, lk2, _⟩ := d.F.ex
  have ef := hm.symm.trans d.g
  cases ef
  have e2 := lk.symm.trans lk2
  simp only [Option.some.injEq, Obj.mk.injEq, Data.func.injEq] at e2
  have e3 : fd = d.fd := e2.2.2.1
  refine ⟨d.f, fd, ps, g, F, hm, hk, ⟨fun s us ws X l1 l2 => ?_, fun r1 r2 => hrel r1 r2⟩⟩
  rw [e3, e]
  exact .of_eq (hb kV doc pm an cd ct us ws l1 l2)
/-- a def with keyword-only parameters that have defaults, no other defaults -/
structure DefK (K : PySem.W.Frag) (mg : Str → Option Value) (n : Str) (st : Stmt) (kws : List (Str × V)) : Type where
  f : Addr
  fd : FuncData
  F : FunD K n n (defArgs st) (defBody st) (defScope st) [] kws f fd
  g : mg n = some (.ref f)
theorem DefK.fng {ps : List Str} (d : DefK K mg n st kws) (S : FnScope N ps (defScope st)) (len : ∀ vs H Q E, sp vs H Q E → vs.length = ps.length)
    (body : ∀ (cd : Value) (A : Around) (outer : List Env) (s : Shared) (H1 : Hp) (E1 : XK) (W : WX) (vs : List V) (H : Hp) (Q : VK) (E : XK), Cn (fx P w K mg base N n st d.f cd A outer s H1 E1) W k → Own (fx P w K mg base N n st d.f cd A outer s H1 E1) →
      (∀ c d σ H', E c d H' → W c d σ H') → sp vs H Q E → WSs (fx P w K mg base N n st d.f cd A outer s H1 E1) (defBody st) { nx := fun _ H' => Q .non H', rt := Q } (start N vs) H) : FnG P w K mg base (k + 1) d.f d.fd ps sp := by
  obtain ⟨oc, od, dV, kV, doc, pm, an, cdv, ct, osl, e, lk, hcd, hD, hK⟩ := d.F.ex
  rcases hD with ⟨_, rfl⟩ | ⟨z, _⟩
  · exact fng_of ⟨⟨oc, od, kV, doc, pm, an, cdv, ct, osl, e, lk, hcd⟩, d.F.kp⟩ S len body
  · exact absurd rfl z
/-- called without them: their defaults -/
theorem DefK.cal0 {ps : List Str} (d : DefK K mg n st kws) (F : FnG P w K mg base k d.f d.fd ps sp) (m : Nat) (hk : kws ≠ []) (hn : m + kws.length = ps.length)
    (h : ∀ (D : Addr) (doc pm : Value) (an : Option Addr) (cdv ct : Value) (us ks : List Value), us.length = m → ks.length = kws.length →
      KwChain D ((kws.map (·.1)).zip ks) (bindArgs (PySem.W.fnOf n n (defArgs st) (defBody st) (defScope st) .none (.ref D) doc pm an cdv ct) ⟨us, []⟩) (ps.zip (us ++ ks))) : Cal P w K mg base n k ps (kws.map (·.2)) sp := by
  obtain ⟨ds, hv, hb⟩ := d.F.binds0 (ps := ps) m hk hn h
  obtain ⟨oc, od, dV, kV, doc, pm, an, cdv, ct, osl, e, lk, _⟩ := d.F.ex
  exact ⟨d.f, d.fd, ds, F, d.g, d.F.kp, hb, hv, oc, od, osl, lk⟩
/-- called with some of them -/
theorem DefK.calK {ps : List Str} (d : DefK K mg n st kws) (F : FnG P w K mg base k d.f d.fd ps sp) (m : Nat) (ks : List Str) (ms : List (Str × V)) (g : {α : Type} → List α → List α → List α → List α) (hk : kws ≠ []) (hms : ∀ q ∈ ms, q ∈ kws)
    (hrel : ∀ {vs mz zs : List V} {us mv ws : List Value}, Vals vs us → Vals mz mv → Vals zs ws → Vals (g vs mz zs) (g us mv ws))
    (h : ∀ (D : Addr) (doc pm : Value) (an : Option Addr) (cdv ct : Value) (us mv ws : List Value), us.length = m → mv.length = ms.length → ws.length = ks.length →
      KwChain D ((ms.map (·.1)).zip mv) (bindArgs (PySem.W.fnOf n n (defArgs st) (defBody st) (defScope st) .none (.ref D) doc pm an cdv ct) ⟨us, ks.zip ws⟩) (ps.zip (g us mv ws))) : CalK P w K mg base n k m ks (fun vs zs => g vs (ms.map (·.2)) zs) sp := by
  obtain ⟨mv, hb⟩ := d.F.kbinds0 (ps := ps) m ks ms g hk hms hrel h
  exact ⟨d.f, d.fd, ps, _, F, d.g, d.F.kp, hb⟩
end

local macro_rules | `(tactic| walk_at "G:heap") => `(tactic| first
  | with_reducible assumption
  | with_reducible exact upd_same
  | ((with_reducible apply SqL.of); walk_at "G:heap")
  | ((with_reducible apply SqT.of); walk_at "G:heap")
  | ((with_reducible apply hp_ne); (focus (with_reducible assumption)); walk_at "G:heap"))
local macro_rules | `(tactic| walk_at "G:ex") => `(tactic| first
  | with_reducible exact Ex.refl _
  | with_reducible assumption
  | ((with_reducible apply Ex.new); (focus (walk_at "G:ex")); with_reducible assumption)
  | ((with_reducible apply exput); (focus (walk_at "G:ex")); walk_at "G:heap"))
local macro_rules | `(tactic| walk_at "G:exb") => `(tactic| first
  | with_reducible exact ExB.refl
  | ((with_reducible apply ExB.set); walk_at "G:exb")
  | ((with_reducible apply ExB.new); (focus (walk_at "G:exb")); with_reducible assumption))
local macro_rules | `(tactic| walk_at "G:ty") => `(tactic| first
  | with_reducible assumption
  | with_reducible exact Ty.int _
  | with_reducible exact Ty.bl _
  | with_reducible exact Ty.str _
  | with_reducible exact Ty.non
  | ((with_reducible apply Ty.lst); (focus (walk_at "G:heap")))
  | ((with_reducible apply Ty.tup); (focus (walk_at "G:heap")))
  | ((with_reducible apply Ty.dct); (focus (walk_at "G:heap"))))
local macro_rules | `(tactic| walk_at "G:tyn") => `(tactic| first | exact .inl rfl | exact .inr (.inl rfl) | exact .inr (.inr (.inl rfl)) | exact .inr (.inr (.inr (.inl rfl))) | exact .inr (.inr (.inr (.inr (.inl rfl)))) | exact .inr (.inr (.inr (.inr (.inr rfl)))))
local macro_rules | `(tactic| walk_at "G:ix") => `(tactic| first | with_reducible assumption | ((with_reducible apply atI_nat); with_reducible assumption) | rfl)
local macro_rules | `(tactic| walk_at "G:side") => `(tactic| first | with_reducible assumption | omega | decide | (simp; done) | (simp; omega))
local macro_rules | `(tactic| walk_at "G:mod") => `(tactic| first | omega | decide)
local macro_rules | `(tactic| walk_at "G:fdiv") => `(tactic| (apply fdiv_ok; (focus (first | omega | decide)); first | omega | decide +kernel))
local macro_rules | `(tactic| walk_at "G:dig") => `(tactic| (apply And.intro; (focus (first | omega | decide +kernel)); first | omega | decide +kernel))
local macro_rules | `(tactic| walk_at "G:mul") => `(tactic| first
  | (apply mul_okL <;> omega)
  | (apply mul_okR <;> omega))
local macro_rules | `(tactic| walk_at "G:pow") => `(tactic| (apply pow_ok <;> omega))
local macro_rules | `(tactic| walk_at "G:shl") => `(tactic| (apply shl_fits <;> omega))
local macro_rules | `(tactic| walk_at "G:dp") => `(tactic| first
  | with_reducible assumption
  | with_reducible exact Dp.non
  | with_reducible exact Dp.bl _
  | with_reducible exact Dp.int _
  | with_reducible exact Dp.str _
  | with_reducible exact DpAll.nil
  | ((with_reducible apply DpAll.cons); (focus (walk_at "G:dp")); walk_at "G:dp")
  | ((with_reducible apply Dp.lst); (focus (walk_at "G:heap")); walk_at "G:dp")
  | ((with_reducible apply Dp.tup); (focus (walk_at "G:heap")); walk_at "G:dp"))
local macro_rules | `(tactic| walk_at "G:rp") => `(tactic| (refine RpOk.mk ?_ ?_ ?_; (focus (simp [fits, fitsAll]; try omega)); (focus (simp [PyData.bulk, PyData.bulkAll]; try omega)); (simp [PyData.depth, PyData.depthAll]; try omega)))
local macro_rules | `(tactic| walk_at "G:vis") => `(tactic| first | exact .inl rfl | exact .inr (.inl rfl) | exact .inr (.inr rfl))
def top (i : Nat) : Stmt := PySem.Challenge.pw_sampledversions_k85_bounds_as_numbers.main.body.getD i (.Pass ⟨0, 0, 0, 0⟩)
abbrev s_is_int : Stmt := top 5
theorem sc_is_int : FnScope ["value"] ["value"] (defScope s_is_int) := ⟨rfl, rfl, rfl, by decide +kernel, rfl, by decide +kernel, by decide +kernel⟩
abbrev s_want_number : Stmt := top 7
theorem sc_want_number : FnScope ["value", "least"] ["value", "least"] (defScope s_want_number) := ⟨rfl, rfl, rfl, by decide +kernel, rfl, by decide +kernel, by decide +kernel⟩
abbrev s_power_at_least : Stmt := top 8
theorem sc_power_at_least : FnScope ["number"] ["number"] (defScope s_power_at_least) := ⟨rfl, rfl, rfl, by decide +kernel, rfl, by decide +kernel, by decide +kernel⟩
abbrev s_want_capacity : Stmt := top 12
theorem sc_want_capacity : FnScope ["capacity"] ["capacity"] (defScope s_want_capacity) := ⟨rfl, rfl, rfl, by decide +kernel, rfl, by decide +kernel, by decide +kernel⟩
abbrev s_guaranteed_step : Stmt := top 14
theorem sc_guaranteed_step : FnScope ["lag", "capacity", "skips", "divisor"] ["lag", "capacity", "skips"] (defScope s_guaranteed_step) := ⟨rfl, rfl, rfl, by decide +kernel, rfl, by decide +kernel, by decide +kernel⟩
abbrev s_step_for_period : Stmt := top 15
theorem sc_step_for_period : FnScope ["period", "capacity"] ["period", "capacity"] (defScope s_step_for_period) := ⟨rfl, rfl, rfl, by decide +kernel, rfl, by decide +kernel, by decide +kernel⟩
abbrev s__law_pot : Stmt := top 17
theorem sc__law_pot : FnScope ["_law_script", "_law_k", "_law_cell"] ["_law_script", "_law_k"] (defScope s__law_pot) := ⟨rfl, rfl, rfl, by decide +kernel, rfl, by decide +kernel, by decide +kernel⟩
abbrev s__law_digit : Stmt := top 18
theorem sc__law_digit : FnScope ["_law_pot_here", "_law_many", "_law_digit_here"] ["_law_pot_here", "_law_many"] (defScope s__law_digit) := ⟨rfl, rfl, rfl, by decide +kernel, rfl, by decide +kernel, by decide +kernel⟩
abbrev s__law_pick : Stmt := top 19
theorem sc__law_pick : FnScope ["_law_pot_here", "_law_some"] ["_law_pot_here", "_law_some"] (defScope s__law_pick) := ⟨rfl, rfl, rfl, by decide +kernel, rfl, by decide +kernel, by decide +kernel⟩
abbrev s__law_is_least : Stmt := top 20
theorem sc__law_is_least : FnScope ["_law_told", "_law_limit", "_law_times"] ["_law_told", "_law_limit", "_law_times"] (defScope s__law_is_least) := ⟨rfl, rfl, rfl, by decide +kernel, rfl, by decide +kernel, by decide +kernel⟩
abbrev s__law_right : Stmt := top 21
theorem sc__law_right : FnScope ["_law_pot_here", "_law_size", "_law_power", "_law_about", "_law_some", "_law_limit", "_law_period", "_law_told"] ["_law_pot_here", "_law_size"] (defScope s__law_right) := ⟨rfl, rfl, rfl, by decide +kernel, rfl, by decide +kernel, by decide +kernel⟩
abbrev s_law : Stmt := top 22
theorem sc_law : FnScope ["_law_script", "_law_k", "_law_pot_here", "_law_size"] ["_law_script"] (defScope s_law) := ⟨rfl, rfl, rfl, by decide +kernel, rfl, by decide +kernel, by decide +kernel⟩
structure All (K : PySem.W.Frag) (mg : Str → Option Value) where
  is_int : Def K mg "is_int" s_is_int ["value"]
  want_number : Def K mg "want_number" s_want_number ["value", "least"]
  power_at_least : Def K mg "power_at_least" s_power_at_least ["number"]
  want_capacity : Def K mg "want_capacity" s_want_capacity ["capacity"]
  guaranteed_step : DefK K mg "guaranteed_step" s_guaranteed_step [("skips", .bl false)]
  step_for_period : Def K mg "step_for_period" s_step_for_period ["period", "capacity"]
  _law_pot : Def K mg "_law_pot" s__law_pot ["_law_script", "_law_k"]
  _law_digit : Def K mg "_law_digit" s__law_digit ["_law_pot_here", "_law_many"]
  _law_pick : Def K mg "_law_pick" s__law_pick ["_law_pot_here", "_law_some"]
  _law_is_least : Def K mg "_law_is_least" s__law_is_least ["_law_told", "_law_limit", "_law_times"]
  _law_right : Def K mg "_law_right" s__law_right ["_law_pot_here", "_law_size"]
  law : Def K mg "law" s_law ["_law_script"]
  LEAST_CAPACITY_g : ∃ t, mg "LEAST_CAPACITY" = some (.int 2 t)
  MOST_CAPACITY_g : ∃ t, mg "MOST_CAPACITY" = some (.int 9 t)
  InvalidNumber : Addr
  InvalidNumber_g : mg "InvalidNumber" = some (.ref InvalidNumber)
  InvalidNumber_e : ErrC K mg "InvalidNumber" InvalidNumber
  InvalidCapacity : Addr
  InvalidCapacity_g : mg "InvalidCapacity" = some (.ref InvalidCapacity)
  InvalidCapacity_e : ErrC K mg "InvalidCapacity" InvalidCapacity
  n_ValueError : mg "ValueError" = none
  n_abs : mg "abs" = none
  n_all : mg "all" = none
  n_bool : mg "bool" = none
  n_divmod : mg "divmod" = none
  n_int : mg "int" = none
  n_isinstance : mg "isinstance" = none
  n_len : mg "len" = none
  n_max : mg "max" = none
  n_min : mg "min" = none
  n_range : mg "range" = none
section
variable {P : Program} {w : World} {K : PySem.W.Frag} {mg : Str → Option Value} {base : Heap}
def sp_is_int : Sp := fun vs H Q _ => ∃ v T, vs = [v] ∧ Ty H v T ∧ Q (.bl (isInt v)) H
theorem ok_is_int (T : All K mg) : Cal P w K mg base "is_int" 1 ["value"] [] sp_is_int := by
  refine T.is_int.cal sc_is_int (fun vs H Q E h => ?_) fun cd A outer s H1 E1 W vs H Q E c o hW h => ?_
  · obtain ⟨v, T, rfl, _⟩ := h; rfl
  obtain ⟨v, T', rfl, ht, q⟩ := h
  refine wss_one (ws_ret (EV.we (ev_andV (ev_callB T.n_isinstance boot_isinstance (ea_cons (ev_var (i := 0) rfl (.inl rfl) rfl) (ea_cons (ev_ty T.n_int boot_int) ea_nil)) (ec_isT ht (by walk_at "G:tyn"))) fun _ =>
    ev_one (ev_notV (ev_callB T.n_isinstance boot_isinstance (ea_cons (ev_var (i := 0) rfl (.inl rfl) rfl) (ea_cons (ev_ty T.n_bool boot_bool) ea_nil)) (ec_isT ht (by walk_at "G:tyn"))))) ?_))
  rw [ht.int_is]
  exact q
def sp_want_number (C : Addr) : Sp := fun vs H Q E => ∃ v T least, vs = [v, .int least] ∧ Ty H v T ∧ (least = 0 ∨ least = 1) ∧ (numAt least v = true → Q .non H) ∧ (numAt least v = false → E (.ref C) none H)
theorem ok_want_number (T : All K mg) : Cal P w K mg base "want_number" 2 ["value", "least"] [] (sp_want_number T.InvalidNumber) := by
  refine T.want_number.cal sc_want_number (fun vs H Q E h => ?_) fun cd A outer s H1 E1 W vs H Q E c o hW h => ?_
  · obtain ⟨_, _, _, rfl, _⟩ := h; rfl
  obtain ⟨v, T', least, rfl, ht, l0, q1, q2⟩ := h
  show WSs _ _ _ [_, _] _
  -- if not is_int(value) or value < least:
  have tst : ∃ k, ET (fx P w K mg base ["value", "least"] "want_number" s_want_number T.want_number.f cd A outer s H1 E1) (match (defBody s_want_number).getD 0 (.Pass ⟨0, 0, 0, 0⟩) with | .If c _ _ _ => c | _ => .Constant .none 0 ⟨0, 0, 0, 0⟩) [some v, some (.int least)] H k ∧ k = !numAt least v := by
    by_cases hi : isInt v = true
    · obtain ⟨i, rfl⟩ : ∃ i, v = .int i := by cases v <;> first | exact ⟨_, rfl⟩ | cases hi
      refine ⟨_, (et_ew (ew_or (et_not (et_val (ev_call (ok_is_int T) c (ea_cons (ev_var (i := 0) rfl (.inl rfl) rfl) ea_nil) (fun _ x _ _ q => ⟨_, _, rfl, Ty.ex x (by walk_at "G:ty"), q⟩)))) fun _ => (ew_or1 (et_cmp (ev_var (i := 0) rfl (.inl rfl) rfl) (ev_var (i := 1) rfl (.inl rfl) rfl) eo_lt)))), ?_⟩
      show (!true || decide (i < least)) = !decide (least ≤ i)
      by_cases h : least ≤ i
      · simp [h]
      · simp [h]; omega
    · have hi : isInt v = false := by simpa using hi
      refine ⟨_, (et_ew (ew_or (k := true) (l := true) ((et_not (et_val (ev_call (ok_is_int T) c (ea_cons (ev_var (i := 0) rfl (.inl rfl) rfl) ea_nil) (fun _ x _ _ q => ⟨_, _, rfl, Ty.ex x (by walk_at "G:ty"), q⟩)))).is (by rw [hi]; rfl)) fun h => nomatch h)), ?_⟩
      cases v <;> first | rfl | cases hi
  obtain ⟨k, et, ek⟩ := tst
  refine wss_cons (ws_ifE et (fun h0 => ?_) (fun h0 => ?_))
  · rcases l0 with rfl | rfl
    all_goals
      refine wss_one (ws_raise c ?_)
      refine wm_err T.InvalidNumber_e (EA.wa (ea_cons (ev_joined (.cons ev_str (.cons (ev_fmtI (ev_var (i := 1) rfl (.inl rfl) rfl) (by decide +kernel)) (.cons ev_str .nil))) (by decide +kernel) rfl) ea_nil) ⟨by decide, ?_⟩)
      exact hW _ _ _ _ (q2 (by rw [h0] at ek; simpa using ek.symm))
  · exact wss_nil (wss_nil (q1 (by rw [h0] at ek; simpa using ek.symm)))
def sp_power_at_least (C : Addr) : Sp := fun vs H Q E => ∃ v T, vs = [v] ∧ Ty H v T ∧ (∀ n, v = .int n → 0 ≤ n → n.natAbs < 2 ^ 100000 ∧ Q (.int (pal n)) H) ∧ (numAt 0 v = false → E (.ref C) none H)
theorem ok_power_at_least (T : All K mg) : Cal P w K mg base "power_at_least" 3 ["number"] [] (sp_power_at_least T.InvalidNumber) := by
  refine T.power_at_least.cal sc_power_at_least (fun vs H Q E h => ?_) fun cd A outer s H1 E1 W vs H Q E c o hW h => ?_
  · obtain ⟨_, _, rfl, _⟩ := h; rfl
  obtain ⟨v, T', rfl, ht, q, qe⟩ := h
  show WSs _ _ _ [_] _
  -- want_number(number, 0)
  refine wss_cons (ws_expr ?_)
  refine we_call (ok_want_number T) c ?_
  refine EA.wa (ea_cons (ev_var (i := 0) rfl (.inl rfl) rfl) (ea_cons ev_int ea_nil)) ?_
  refine ⟨v, T', 0, rfl, ht, .inl rfl, fun h => ?_, fun h => hW _ _ _ _ (qe h)⟩
  obtain ⟨n, rfl⟩ : ∃ i, v = .int i := by cases v <;> first | exact ⟨_, rfl⟩ | cases h
  have hn : 0 ≤ n := of_decide_eq_true h
  obtain ⟨hz, q⟩ := q n rfl hn
  show WSs _ _ _ [_] _
  -- return 1 << max(0, number - 1).bit_length()
  refine wss_one (ws_retE (ev_bin ev_int (ev_bits (ev_callB T.n_max PyProof.Rows.boot_max (ea_cons ev_int (ea_cons (ev_bin (ev_var (i := 0) rfl (.inl rfl) rfl) ev_int eo_sub) ea_nil)) (ec_max rfl))) (eo_shl ?_)) ⟨H, Ex.refl H, ?_⟩)
  · have b : Builtin.Int.intBits (if n - 1 > 0 then n - 1 else 0) ≤ 100000 := PyProof.Rows.intBits_le (Nat.lt_of_le_of_lt (by split <;> omega) hz)
    exact shl_ok (n := 1) (by decide) (by omega)
  · rw [bits_nat, Int.one_mul]
    exact q
def capAt : V → Bool
  | .int i => decide (2 ≤ i) && decide (i ≤ 9)
  | _ => false
def sp_want_capacity (C : Addr) : Sp := fun vs H Q E => ∃ v T, vs = [v] ∧ Ty H v T ∧ (capAt v = true → Q .non H) ∧ (capAt v = false → E (.ref C) none H)
theorem ok_want_capacity (T : All K mg) : Cal P w K mg base "want_capacity" 2 ["capacity"] [] (sp_want_capacity T.InvalidCapacity) := by
  refine T.want_capacity.cal sc_want_capacity (fun vs H Q E h => ?_) fun cd A outer s H1 E1 W vs H Q E c o hW h => ?_
  · obtain ⟨_, _, rfl, _⟩ := h; rfl
  obtain ⟨v, T', rfl, ht, q, qe⟩ := h
  obtain ⟨t1, g1⟩ := T.LEAST_CAPACITY_g
  obtain ⟨t2, g2⟩ := T.MOST_CAPACITY_g
  show WSs _ _ _ [_] _
  -- if not is_int(capacity) or not LEAST_CAPACITY <= capacity <= MOST_CAPACITY:
  have tst : ∃ k, ET (fx P w K mg base ["capacity"] "want_capacity" s_want_capacity T.want_capacity.f cd A outer s H1 E1) (match (defBody s_want_capacity).getD 0 (.Pass ⟨0, 0, 0, 0⟩) with | .If c _ _ _ => c | _ => .Constant .none 0 ⟨0, 0, 0, 0⟩) [some v] H k ∧ k = !capAt v := by
    by_cases hi : isInt v = true
    · obtain ⟨i, rfl⟩ : ∃ i, v = .int i := by cases v <;> first | exact ⟨_, rfl⟩ | cases hi
      refine ⟨_, (et_ew (ew_or (et_not (et_val (ev_call (ok_is_int T) c (ea_cons (ev_var (i := 0) rfl (.inl rfl) rfl) ea_nil) (fun _ x _ _ q => ⟨_, _, rfl, Ty.ex x ht, q⟩)))) fun _ => (ew_or1 (et_not (et_chain (ev_glob (v := .int 2) g1 ⟨_, rfl⟩) (ev_var (i := 0) rfl (.inl rfl) rfl) eo_le (ev_glob (v := .int 9) g2 ⟨_, rfl⟩) eo_le))))), ?_⟩
      rfl
    · have hi : isInt v = false := by simpa using hi
      refine ⟨_, (et_ew (ew_or (k := true) (l := true) ((et_not (et_val (ev_call (ok_is_int T) c (ea_cons (ev_var (i := 0) rfl (.inl rfl) rfl) ea_nil) (fun _ x _ _ q => ⟨_, _, rfl, Ty.ex x ht, q⟩)))).is (by rw [hi]; rfl)) fun h => nomatch h)), ?_⟩
      cases v <;> first | rfl | cases hi
  obtain ⟨k, et, ek⟩ := tst
  refine wss_cons (ws_ifE et (fun h0 => ?_) (fun h0 => ?_))
  · -- raise InvalidCapacity('a capacity must be an integer from 2 to 9')
    refine wss_one (ws_raise c ?_)
    refine wm_err T.InvalidCapacity_e (EA.wa (ea_cons ev_str ea_nil) ⟨by decide, ?_⟩)
    exact hW _ _ _ _ (qe (by rw [h0] at ek; simpa using ek.symm))
  · exact wss_nil (wss_nil (q (by rw [h0] at ek; simpa using ek.symm)))
def sp_guaranteed_step (C D : Addr) : Sp := fun vs H Q E => ∃ v T u U b, vs = [v, u, .bl b] ∧ Ty H v T ∧ Ty H u U ∧
  (∀ n m, v = .int n → u = .int m → 0 ≤ n → 2 ≤ m → m ≤ 9 → n < 900000000000000000000000000000000000000000000000000000000000000 ∧ Q (.int (pal ((n + (if b = true then 1 else m - 1) - 1) / (if b = true then 1 else m - 1)))) H) ∧ (numAt 0 v = false → E (.ref C) none H) ∧ (capAt u = false → E (.ref D) none H)
theorem fng_guaranteed_step (T : All K mg) : FnG P w K mg base 4 T.guaranteed_step.f T.guaranteed_step.fd ["lag", "capacity", "skips"] (sp_guaranteed_step T.InvalidNumber T.InvalidCapacity) := by
  refine T.guaranteed_step.fng sc_guaranteed_step (fun vs H Q E h => ?_) fun cd A outer s H1 E1 W vs H Q E c o hW h => ?_
  · obtain ⟨_, _, _, _, _, rfl, _⟩ := h; rfl
  obtain ⟨v, T', u, U, b, rfl, ht, hu, q, qe, qe2⟩ := h
  show WSs _ _ _ [_, _, _, _] _
  -- want_number(lag, 0)
  refine wss_cons (ws_expr ?_)
  refine we_call (ok_want_number T) c ?_
  refine EA.wa (ea_cons (ev_var (i := 0) rfl (.inl rfl) rfl) (ea_cons ev_int ea_nil)) ?_
  refine ⟨v, T', 0, rfl, ht, .inl rfl, fun h => ?_, fun h => hW _ _ _ _ (qe h)⟩
  obtain ⟨n, rfl⟩ : ∃ i, v = .int i := by cases v <;> first | exact ⟨_, rfl⟩ | cases h
  have hn : 0 ≤ n := of_decide_eq_true h
  show WSs _ _ _ [_, _, _, _] _
  -- want_capacity(capacity)
  refine wss_cons (ws_expr ?_)
  refine we_call (ok_want_capacity T) c ?_
  refine EA.wa (ea_cons (ev_var (i := 1) rfl (.inl rfl) rfl) ea_nil) ?_
  refine ⟨u, U, rfl, hu, fun h => ?_, fun h => hW _ _ _ _ (qe2 h)⟩
  obtain ⟨m, rfl⟩ : ∃ i, u = .int i := by cases u <;> first | exact ⟨_, rfl⟩ | cases h
  have hm : 2 ≤ m ∧ m ≤ 9 := by simpa [capAt] using h
  obtain ⟨hz, q⟩ := q n m rfl rfl hn hm.1 hm.2
  have hd : 1 ≤ (if b = true then 1 else m - 1) ∧ (if b = true then 1 else m - 1) ≤ 8 := by split <;> omega
  show WSs _ _ _ [_, _, _, _] _
  -- divisor = 1 if skips else capacity - 1
  refine wss_cons (ws_set (i := 3) sc_guaranteed_step.nd rfl ?_)
  refine EV.we (EV.is (w := .int (if b = true then 1 else m - 1)) (ev_if2 (et_val (ev_var (i := 2) rfl (.inl rfl) rfl)) (fun _ => ev_int) fun _ => (ev_bin (ev_var (i := 1) rfl (.inl rfl) rfl) ev_int eo_sub)) (by cases b <;> rfl)) ?_
  generalize (if b = true then 1 else m - 1) = d at hd q ⊢
  show WSs _ _ _ [_, _, _, _] _
  -- return power_at_least((lag + divisor - 1) // divisor)
  refine wss_one (ws_ret ?_)
  refine we_call (ok_power_at_least T) c ?_
  refine EA.wa (ea_cons (ev_bin (ev_bin (ev_bin (ev_var (i := 0) rfl (.inl rfl) rfl) (ev_var (i := 3) rfl (.inl rfl) rfl) eo_add) ev_int eo_sub) (ev_var (i := 3) rfl (.inl rfl) rfl) (eo_fdiv (by walk_at "G:fdiv"))) ea_nil) ?_
  have e1 : 0 ≤ (n + d - 1) / d := Int.ediv_nonneg (by omega) (by omega)
  have e2 : (n + d - 1) / d ≤ n + d - 1 := Int.ediv_le_self _ (by omega)
  refine ⟨_, _, rfl, .int _, fun k e _ => ?_, fun h => (numAt_bad e1 h).elim⟩
  cases e
  exact ⟨small_n e1 (by omega), q⟩
theorem ok_guaranteed_step (T : All K mg) : Cal P w K mg base "guaranteed_step" 4 ["lag", "capacity", "skips"] [.bl false] (sp_guaranteed_step T.InvalidNumber T.InvalidCapacity) :=
  T.guaranteed_step.cal0 (fng_guaranteed_step T) 2 (fun z => nomatch z) rfl fun D doc pm an cdv ct us ks l1 l2 => match us, ks, l1, l2 with
    | [_, _], [_], _, _ => ⟨_, _, _, _, _, _, rfl, rfl, rfl⟩
theorem kw_guaranteed_step (T : All K mg) : CalK P w K mg base "guaranteed_step" 4 2 ["skips"] (fun vs zs => vs ++ zs) (sp_guaranteed_step T.InvalidNumber T.InvalidCapacity) :=
  T.guaranteed_step.calK (ps := ["lag", "capacity", "skips"]) (fng_guaranteed_step T) 2 ["skips"] [] (fun a b c => a ++ c) (fun z => nomatch z) (fun _ z => nomatch z) (fun a b c => a.append c) fun D doc pm an cdv ct us mv ws l1 l2 l3 => match us, mv, ws, l1, l2, l3 with
    | [_, _], [], [_], _, _, _ => rfl
def sp_step_for_period (C D : Addr) : Sp := fun vs H Q E => ∃ v T u U, vs = [v, u] ∧ Ty H v T ∧ Ty H u U ∧
  (∀ n m, v = .int n → u = .int m → 1 ≤ n → 2 ≤ m → m ≤ 9 → n < 10000000000000000000000000000000000000000000000000000000000000 ∧ Q (.int (pal (((m + 1) * n + (m - 1) - 1) / (m - 1)))) H) ∧ (numAt 1 v = false → E (.ref C) none H) ∧ (capAt u = false → E (.ref D) none H)
theorem ok_step_for_period (T : All K mg) : Cal P w K mg base "step_for_period" 5 ["period", "capacity"] [] (sp_step_for_period T.InvalidNumber T.InvalidCapacity) := by
  refine T.step_for_period.cal sc_step_for_period (fun vs H Q E h => ?_) fun cd A outer s H1 E1 W vs H Q E c o hW h => ?_
  · obtain ⟨_, _, _, _, rfl, _⟩ := h; rfl
  obtain ⟨v, T', u, U, rfl, ht, hu, q, qe, qe2⟩ := h
  show WSs _ _ _ [_, _] _
  -- want_number(period, 1)
  refine wss_cons (ws_expr ?_)
  refine we_call (ok_want_number T) c ?_
  refine EA.wa (ea_cons (ev_var (i := 0) rfl (.inl rfl) rfl) (ea_cons ev_int ea_nil)) ?_
  refine ⟨v, T', 1, rfl, ht, .inr rfl, fun h => ?_, fun h => hW _ _ _ _ (qe h)⟩
  obtain ⟨n, rfl⟩ : ∃ i, v = .int i := by cases v <;> first | exact ⟨_, rfl⟩ | cases h
  have hn : 1 ≤ n := of_decide_eq_true h
  show WSs _ _ _ [_, _] _
  -- want_capacity(capacity)
  refine wss_cons (ws_expr ?_)
  refine we_call (ok_want_capacity T) c ?_
  refine EA.wa (ea_cons (ev_var (i := 1) rfl (.inl rfl) rfl) ea_nil) ?_
  refine ⟨u, U, rfl, hu, fun h => ?_, fun h => hW _ _ _ _ (qe2 h)⟩
  obtain ⟨m, rfl⟩ : ∃ i, u = .int i := by cases u <;> first | exact ⟨_, rfl⟩ | cases h
  have hm : 2 ≤ m ∧ m ≤ 9 := by simpa [capAt] using h
  obtain ⟨hz, q⟩ := q n m rfl rfl hn hm.1 hm.2
  show WSs _ _ _ [_, _] _
  -- return guaranteed_step((capacity + 1) * period, capacity)
  refine wss_one (ws_ret ?_)
  refine we_call (ok_guaranteed_step T) c ?_
  refine EA.wa (ea_cons (ev_bin (ev_bin (ev_var (i := 1) rfl (.inl rfl) rfl) ev_int eo_add) (ev_var (i := 0) rfl (.inl rfl) rfl) (eo_mul (by walk_at "G:mul"))) (ea_cons (ev_var (i := 1) rfl (.inl rfl) rfl) ea_nil)) ?_
  have b1 : 0 ≤ (m + 1) * n := Int.mul_nonneg (by omega) (by omega)
  have b2 : (m + 1) * n ≤ 10 * n := Int.mul_le_mul_of_nonneg_right (by omega) (by omega)
  refine ⟨_, _, _, _, false, rfl, .int _, .int _, fun a b ea eb _ _ _ => ?_, fun h => (numAt_bad b1 h).elim, fun h => ?_⟩
  · cases ea; cases eb
    exact ⟨by omega, q⟩
  · simp [capAt] at h; omega
def sp__law_pot (K : PySem.W.Frag) : Sp := fun vs H Q _ => ∃ (a : Addr) (ns : List Int) (k : Int), vs = [.ref a, .int k] ∧ SqL K H a (ns.map V.int) ∧ 0 ≤ k ∧ k ≤ 100 ∧ ∀ p, H p = none → Q (.ref p) (upd H p (pot p))
theorem ok__law_pot (T : All K mg) : Cal P w K mg base "_law_pot" 1 ["_law_script", "_law_k"] [] (sp__law_pot K) := by
  refine T._law_pot.cal sc__law_pot (fun vs H Q E h => ?_) fun cd A outer s H1 E1 W vs H Q E c o hW h => ?_
  · obtain ⟨_, _, _, rfl, _⟩ := h; rfl
  obtain ⟨a, ns, k, rfl, hs, k0, k1, q⟩ := h
  show WSs _ _ _ [_, _, _] _
  -- _law_cell = _law_script[_law_k] if _law_k < len(_law_script) else 0
  refine wss_cons (ws_set (i := 2) sc__law_pot.nd rfl ?_)
  refine EV.we (v := .int (if h : k < ns.length then ns[k.toNat]'(by omega) else 0)) (ev_if (et_cmp (ev_var (i := 1) rfl (.inl rfl) rfl) (ev_callB T.n_len PySem.boot_len (ea_cons (ev_var (i := 0) rfl (.inl rfl) rfl) ea_nil) (ec_lenL hs)) eo_lt) (fun h => ?_) fun h => ?_) ?_
  · have h : k < ns.length := by simpa using h
    rw [dif_pos h]
    refine (ev_ixL (ev_var (i := 0) rfl (.inl rfl) rfl) (ev_var (i := 1) rfl (.inl rfl) rfl) hs ?_)
    obtain ⟨n, rfl⟩ := Int.eq_ofNat_of_zero_le k0
    exact atI_nat (by simp [show n < ns.length by omega])
  · have h : ¬ k < ns.length := by simpa using h
    rw [dif_neg h]
    exact ev_int
  generalize (if h : k < ns.length then ns[k.toNat]'(by omega) else 0) = z
  show WSs _ _ _ [_, _, _] _
  -- return [max(0, abs(_law_cell) - 10 ** 18), (abs(_law_cell) % 2147483477 + 101 * _law_k + 3) ** 2 % 2147483399 + 1]
  have hm := Int.emod_nonneg (if z < 0 then -z else z) (show (2147483477 : Int) ≠ 0 by decide)
  have hm2 := Int.emod_lt_of_pos (if z < 0 then -z else z) (show (0 : Int) < 2147483477 by decide)
  refine wss_one (ws_retF ?_)
  refine we_pot ?_
  refine EN.we (en_lst (ea_cons (ev_callB T.n_max PyProof.Rows.boot_max (ea_cons ev_int (ea_cons (ev_bin (ev_callB T.n_abs boot_abs (ea_cons (ev_var (i := 2) rfl (.inl rfl) rfl) ea_nil) ec_abs) (ev_bin ev_int ev_int (eo_pow (by walk_at "G:pow"))) eo_sub) ea_nil)) (ec_max rfl)) (ea_cons (ev_bin (ev_bin (ev_bin (ev_bin (ev_bin (ev_bin (ev_callB T.n_abs boot_abs (ea_cons (ev_var (i := 2) rfl (.inl rfl) rfl) ea_nil) ec_abs) ev_int (eo_mod (by walk_at "G:mod"))) (ev_bin ev_int (ev_var (i := 1) rfl (.inl rfl) rfl) (eo_mul (by walk_at "G:mul"))) eo_add) ev_int eo_add) ev_int (eo_pow (by walk_at "G:pow"))) ev_int (eo_mod (by walk_at "G:mod"))) ev_int eo_add) ea_nil)) (lenle rfl)) fun p0 n0 => ?_
  refine ⟨p0, _, _, upd_same, ⟨by split <;> omega, by omega, by omega⟩, _, ?_, q p0 n0⟩
  rw [upd_upd]
  exact Ex.refl _
def sp__law_digit : Sp := fun vs H Q _ => ∃ p m, vs = [.ref p, .int m] ∧ H p = some (pot p) ∧ DigOk m ∧ ∀ d, 0 ≤ d → d < m → Q (.int d) H
theorem ok__law_digit (T : All K mg) : Cal P w K mg base "_law_digit" 1 ["_law_pot_here", "_law_many"] [] sp__law_digit := by
  refine T._law_digit.cal sc__law_digit (fun vs H Q E h => ?_) fun cd A outer s H1 E1 W vs H Q E c o hW h => ?_
  · obtain ⟨_, _, rfl, _⟩ := h; rfl
  obtain ⟨p, m, rfl, hp, hm, q⟩ := h
  show WSs _ _ _ [_, _, _] _
  refine wss_pot hp fun a b ok => ?_
  obtain ⟨a0, b0, b1⟩ := ok
  have q1 : ∀ a, Q (.int (a % m)) H := fun a => q _ (Int.emod_nonneg _ (by have := hm.1; omega)) (Int.emod_lt_of_pos _ hm.1)
  have fin : ∀ (a b : Int), upd (upd H p (.lst [.int a, .int b])) p (pot p) = H := fun a b => by rw [upd_upd, upd_id hp]
  -- if _law_pot_here[0] > 0:
  refine wss_cons (ws_ifE (et_cmp (ev_ixL (ev_var (i := 0) rfl (.inl rfl) rfl) ev_int (by walk_at "G:heap") (by walk_at "G:ix")) ev_int eo_gt) (fun h0 => ?_) (fun h0 => ?_))
  · -- _law_pot_here[0], _law_digit_here = divmod(_law_pot_here[0], _law_many)
    have h0 : 0 < a := by simpa using h0
    refine wss_cons (ws_asg ?_)
    refine we_callB T.n_divmod PyProof.Rows.boot_divmod ?_
    refine EA.wa (ea_cons (ev_ixL (ev_var (i := 0) rfl (.inl rfl) rfl) ev_int (by walk_at "G:heap") (by walk_at "G:ix")) (ea_cons (ev_var (i := 1) rfl (.inl rfl) rfl) ea_nil)) ?_
    refine CN.wc (cn_divmod (dig_div hm)) fun p1 n1 => ?_
    -- target (_law_pot_here[0], _law_digit_here)
    have hp1 : upd (upd H p (.lst [.int a, .int b])) p1 (.tup [.int (a / m), .int (a % m)]) p = some (.lst [.int a, .int b]) := hp_ne n1 upd_same
    refine wg_tup (by walk_at "G:heap") (wgs_cons (wg_ixL (j := 0) (ev_var (i := 0) rfl (.inl rfl) rfl) ev_int hp1 rfl ?_))
    refine wgs_cons (wg_name (i := 2) sc__law_digit.nd rfl (wgs_nil ?_))
    show WSs _ _ _ [_, _, _] _
    -- return _law_digit_here
    refine wss_one (ws_retF (we_pot (EV.we (ev_var (i := 2) rfl (.inl rfl) rfl) ?_)))
    refine pot_end hp ?_ upd_same ⟨Int.ediv_nonneg a0 (Int.le_of_lt hm.1), b0, b1⟩ (q1 a)
    walk_at "G:exb"
  · refine wss_nilF ⟨_, Ex.refl _, ?_⟩
    show WSs _ _ _ [_, _, _] _
    have e1 := Int.emod_nonneg (b * 48271 + 10037) (show (2147483587 : Int) ≠ 0 by decide)
    have e2 := Int.emod_lt_of_pos (b * 48271 + 10037) (show (0 : Int) < 2147483587 by decide)
    -- _law_pot_here[1] = (_law_pot_here[1] * 48271 + 10037) % 2147483587
    refine wss_cons (ws_asg ?_)
    refine EV.we (ev_bin (ev_bin (ev_bin (ev_ixL (ev_var (i := 0) rfl (.inl rfl) rfl) ev_int (by walk_at "G:heap") (by walk_at "G:ix")) ev_int (eo_mul (by walk_at "G:mul"))) ev_int eo_add) ev_int (eo_mod (by walk_at "G:mod"))) ?_
    refine wg_ixL (j := 1) (ev_var (i := 0) rfl (.inl rfl) rfl) ev_int upd_same rfl ?_
    show WSs _ _ _ [_, _, _] _
    -- return _law_pot_here[1] * _law_pot_here[1] % 2147483563 // 5 % _law_many
    generalize (b * 48271 + 10037) % 2147483587 = z at e1 e2 ⊢
    refine wss_one (ws_retF (we_pot (EV.we (ev_bin (ev_bin (ev_bin (ev_bin (ev_ixL (ev_var (i := 0) rfl (.inl rfl) rfl) ev_int (by walk_at "G:heap") (by walk_at "G:ix")) (ev_ixL (ev_var (i := 0) rfl (.inl rfl) rfl) ev_int (by walk_at "G:heap") (by walk_at "G:ix")) (eo_mul (by walk_at "G:mul"))) ev_int (eo_mod (by walk_at "G:mod"))) ev_int (eo_fdiv (by walk_at "G:fdiv"))) (ev_var (i := 1) rfl (.inl rfl) rfl) (eo_mod hm.1)) ?_)))
    refine pot_end hp ?_ upd_same ⟨a0, e1, by omega⟩ (q1 (z * z % 2147483563 / 5))
    walk_at "G:exb"
def sp__law_pick : Sp := fun vs H Q _ => ∃ p l xs, vs = [.ref p, .ref l] ∧ H p = some (pot p) ∧ H l = some (.lst xs) ∧ 0 < xs.length ∧ xs.length ≤ 1000 ∧ ∀ v, v ∈ xs → Q v H
theorem ok__law_pick (T : All K mg) : Cal P w K mg base "_law_pick" 2 ["_law_pot_here", "_law_some"] [] sp__law_pick := by
  refine T._law_pick.cal sc__law_pick (fun vs H Q E h => ?_) fun cd A outer s H1 E1 W vs H Q E c o hW h => ?_
  · obtain ⟨_, _, _, rfl, _⟩ := h; rfl
  obtain ⟨p, l, xs, rfl, hp, hl, hn, hz, q⟩ := h
  show WSs _ _ _ [_, _] _
  -- return _law_some[_law_digit(_law_pot_here, len(_law_some))]
  refine wss_one (ws_ret ?_)
  refine we_ix ix_list ?_
  refine EV.we (ev_var (i := 1) rfl (.inl rfl) rfl) ?_
  refine we_call (ok__law_digit T) c ?_
  refine EA.wa (ea_cons (ev_var (i := 0) rfl (.inl rfl) rfl) (ea_cons (ev_callB T.n_len PySem.boot_len (ea_cons (ev_var (i := 1) rfl (.inl rfl) rfl) ea_nil) (ec_lenL (by walk_at "G:heap"))) ea_nil)) ?_
  refine ⟨_, _, rfl, by walk_at "G:heap", by walk_at "G:dig", fun d0 g0 l0 => ?_⟩
  obtain ⟨n, rfl⟩ := Int.eq_ofNat_of_zero_le g0
  have hlt : n < xs.length := by omega
  exact fun H3 x3 => ⟨l, xs, _, xs[n], rfl, rfl, .of (x3 _ _ hl), atI_nat (by simp [hlt]), H, x3, q _ (List.getElem_mem hlt)⟩
def IsLeast (t l d : Int) : Prop := isPow t = true ∧ l ≤ t * d ∧ (t = 1 ∨ t / 2 * d < l)
theorem pal_least {n d : Int} (n0 : 0 ≤ n) (hd : 1 ≤ d) : IsLeast (pal ((n + d - 1) / d)) n d := by
  have h1 : (n + d - 1) / d * d ≤ n + d - 1 := Int.ediv_mul_le _ (by omega)
  have h2 : n + d - 1 < ((n + d - 1) / d + 1) * d := by
    have := Int.lt_ediv_add_one_mul_self (n + d - 1) (show 0 < d by omega)
    exact this
  have h3 : 0 ≤ (n + d - 1) / d := Int.ediv_nonneg (by omega) (by omega)
  obtain ⟨p1, p2⟩ := pal_facts h3
  generalize (n + d - 1) / d = q at *
  refine ⟨isPow_pow _, ?_, ?_⟩
  · have : q * d ≤ pal q * d := Int.mul_le_mul_of_nonneg_right p1 (by omega)
    have e : (q + 1) * d = q * d + d := by rw [Int.add_mul, Int.one_mul]
    omega
  · by_cases z : pal q = 1
    · exact .inl z
    · right
      have hp : 0 < pal q := Int.pow_pos (by decide)
      have := p2 (by omega)
      have h4 : pal q / 2 * d ≤ (q - 1) * d := Int.mul_le_mul_of_nonneg_right (by omega) (by omega)
      have e : (q - 1) * d = q * d - d := by rw [Int.sub_mul, Int.one_mul]
      omega
def sp__law_is_least : Sp := fun vs H Q E => ∃ t l d : Int, vs = [.int t, .int l, .int d] ∧ 0 ≤ d ∧ d ≤ 9 ∧ IsLeast t l d ∧ Q (.bl true) H
theorem ok__law_is_least (T : All K mg) : Cal P w K mg base "_law_is_least" 1 ["_law_told", "_law_limit", "_law_times"] [] sp__law_is_least := by
  refine T._law_is_least.cal sc__law_is_least (fun vs H Q E h => ?_) fun cd A outer s H1 E1 W vs H Q E c o hW h => ?_
  · obtain ⟨_, _, _, rfl, _⟩ := h; rfl
  obtain ⟨t, l, d, rfl, d0, d1, ⟨i1, i2, i3⟩, q⟩ := h
  have i1 : 0 < t ∧ Builtin.bitAnd t (t - 1) = 0 := by simpa [isPow] using i1
  show WSs _ _ _ [_, _, _] _
  -- if not isinstance(_law_told, int) or isinstance(_law_told, bool) or _law_told < 1 or (_law_told & _law_told - 1 != 0):
  refine wss_cons (ws_ifE (et_ew (ew_or (et_not (et_val (ev_callB T.n_isinstance PyProof.Rows.boot_isinstance (ea_cons (ev_var (i := 0) rfl (.inl rfl) rfl) (ea_cons (ev_ty T.n_int PyProof.Rows.boot_int) ea_nil)) (ec_isT (.int _) (by walk_at "G:tyn"))))) fun _ => (ew_or (et_val (ev_callB T.n_isinstance PyProof.Rows.boot_isinstance (ea_cons (ev_var (i := 0) rfl (.inl rfl) rfl) (ea_cons (ev_ty T.n_bool PyProof.Rows.boot_bool) ea_nil)) (ec_isT (.int _) (by walk_at "G:tyn")))) fun _ => (ew_or (et_cmp (ev_var (i := 0) rfl (.inl rfl) rfl) ev_int eo_lt) fun _ => (ew_or1 (et_cmp (ev_bin (ev_var (i := 0) rfl (.inl rfl) rfl) (ev_bin (ev_var (i := 0) rfl (.inl rfl) rfl) ev_int eo_sub) eo_and) ev_int eo_neI)))))) (fun h0 => ?_) (fun h0 => ?_))
  · have h0 : (!true || (false || (decide (t < 1) || !decide (Builtin.bitAnd t (t - 1) = 0)))) = true := h0
    rw [i1.2] at h0
    simp at h0
    omega
  · refine wss_nil ?_
    show WSs _ _ _ [_, _, _] _
    -- return _law_told * _law_times >= _law_limit and (_law_told == 1 or _law_told // 2 * _law_times < _law_limit)
    refine wss_one (ws_ret (EV.we (EV.is (ev_andV (ev_cmp (ev_bin (ev_var (i := 0) rfl (.inl rfl) rfl) (ev_var (i := 2) rfl (.inl rfl) rfl) (eo_mul (by walk_at "G:mul"))) (ev_var (i := 1) rfl (.inl rfl) rfl) eo_ge) fun _ => (ev_one (ev_orV (ev_cmp (ev_var (i := 0) rfl (.inl rfl) rfl) ev_int eo_eqI) fun _ => (ev_one (ev_cmp (ev_bin (ev_bin (ev_var (i := 0) rfl (.inl rfl) rfl) ev_int (eo_fdiv (by walk_at "G:fdiv"))) (ev_var (i := 2) rfl (.inl rfl) rfl) (eo_mul (by walk_at "G:mul"))) (ev_var (i := 1) rfl (.inl rfl) rfl) eo_lt))))) ?_) q))
    congr 1
    rw [show decide (t * d ≥ l) = true from decide_eq_true i2]
    rcases i3 with i3 | i3 <;> simp [i3]
end

section
variable {P : Program} {w : World} {K : PySem.W.Frag} {mg : Str → Option Value} {base : Heap}
def Lim (v : V) : Prop := ∃ n : Int, v = .int n ∧ 0 ≤ n ∧ n < 10000000000000000000000000000000000000000000000000000000000
def sp__law_right : Sp := fun vs H Q E => ∃ (p : Addr) (m : Int), vs = [.ref p, .int m] ∧ H p = some (pot p) ∧ 2 ≤ m ∧ m ≤ 9 ∧ Q (.bl true) H
theorem ok__law_right (T : All K mg) : Cal P w K mg base "_law_right" 6 ["_law_pot_here", "_law_size"] [] sp__law_right := by
  refine T._law_right.cal sc__law_right (fun vs H Q E h => ?_) fun cd A outer s H1 E1 W vs H Q E c o hW h => ?_
  · obtain ⟨_, _, rfl, _⟩ := h; rfl
  obtain ⟨p, m, rfl, hp, m0, m1, q⟩ := h
  show WSs _ _ _ [_, _, _, _, _, _, _, _] _
  -- _law_power = 1 << _law_digit(_law_pot_here, 170)
  refine wss_cons (ws_set (i := 2) sc__law_right.nd rfl ?_)
  refine we_bin ?_
  refine EV.we ev_int ?_
  refine we_call (ok__law_digit T) c ?_
  refine EA.wa (ea_cons (ev_var (i := 0) rfl (.inl rfl) rfl) (ea_cons ev_int ea_nil)) ?_
  refine ⟨_, _, rfl, hp, by walk_at "G:dig", fun d0 g0 l0 => ?_⟩
  refine EO.wo (eo_shl (by walk_at "G:shl")) ?_
  have hpw : 1 ≤ 1 * (2 : Int) ^ d0.toNat ∧ 1 * (2 : Int) ^ d0.toNat < 1000000000000000000000000000000000000000000000000000000 := by
    rw [Int.one_mul]
    have hm : (2 : Int) ^ d0.toNat ≤ 2 ^ 170 := pow_mono (by omega)
    have hp : (0 : Int) < 2 ^ d0.toNat := Int.pow_pos (by decide)
    have e : (2 : Int) ^ 170 = 1496577676626844588240573268701473812127674924007424 := by decide +kernel
    rw [e] at hm
    omega
  generalize 1 * (2 : Int) ^ d0.toNat = pw at hpw ⊢
  show WSs _ _ _ [_, _, _, _, _, _, _, _] _
  -- _law_about = max(0, _law_power * (_law_size - 1) + _law_digit(_law_pot_here, 3) - 1)
  have hpm : 0 ≤ pw * (m - 1) := Int.mul_nonneg (by omega) (by omega)
  have hpm2 : pw * (m - 1) ≤ pw * 8 := Int.mul_le_mul_of_nonneg_left (by omega) (by omega)
  refine wss_cons (ws_set (i := 3) sc__law_right.nd rfl ?_)
  refine we_callB T.n_max PyProof.Rows.boot_max ?_
  refine wa_cons ?_
  refine EV.we ev_int ?_
  refine wa_cons ?_
  refine we_bin ?_
  refine we_bin ?_
  refine EV.we (ev_bin (ev_var (i := 2) rfl (.inl rfl) rfl) (ev_bin (ev_var (i := 1) rfl (.inl rfl) rfl) ev_int eo_sub) (eo_mul (by walk_at "G:mul"))) ?_
  refine we_call (ok__law_digit T) c ?_
  refine EA.wa (ea_cons (ev_var (i := 0) rfl (.inl rfl) rfl) (ea_cons ev_int ea_nil)) ?_
  refine ⟨_, _, rfl, hp, by walk_at "G:dig", fun d1 g1 l1 => ?_⟩
  refine EO.wo eo_add ?_
  refine EV.we ev_int ?_
  refine EO.wo eo_sub ?_
  refine wa_nil ?_
  refine EC.wc (ec_max rfl) ?_
  have hab : 0 ≤ (if pw * (m - 1) + d1 - 1 > 0 then pw * (m - 1) + d1 - 1 else 0) ∧ (if pw * (m - 1) + d1 - 1 > 0 then pw * (m - 1) + d1 - 1 else 0) < 10000000000000000000000000000000000000000000000000000000000 := by split <;> omega
  generalize (if pw * (m - 1) + d1 - 1 > 0 then pw * (m - 1) + d1 - 1 else 0) = ab at hab ⊢
  show WSs _ _ _ [_, _, _, _, _, _, _, _] _
  -- _law_some = [0, 1, _law_digit(_law_pot_here, 60), _law_about, max(0, _law_power + _law_digit(_law_pot_here, 3) - 1)]
  refine wss_cons (ws_set (i := 4) sc__law_right.nd rfl ?_)
  refine we_lst ?_
  refine wa_cons ?_
  refine EV.we ev_int ?_
  refine wa_cons ?_
  refine EV.we ev_int ?_
  refine wa_cons ?_
  refine we_call (ok__law_digit T) c ?_
  refine EA.wa (ea_cons (ev_var (i := 0) rfl (.inl rfl) rfl) (ea_cons ev_int ea_nil)) ?_
  refine ⟨_, _, rfl, hp, by walk_at "G:dig", fun d3 g3 l3 => ?_⟩
  refine wa_cons ?_
  refine EV.we (ev_var (i := 3) rfl (.inl rfl) rfl) ?_
  refine wa_cons ?_
  refine we_callB T.n_max PyProof.Rows.boot_max ?_
  refine wa_cons ?_
  refine EV.we ev_int ?_
  refine wa_cons ?_
  refine we_bin ?_
  refine we_bin ?_
  refine EV.we (ev_var (i := 2) rfl (.inl rfl) rfl) ?_
  refine we_call (ok__law_digit T) c ?_
  refine EA.wa (ea_cons (ev_var (i := 0) rfl (.inl rfl) rfl) (ea_cons ev_int ea_nil)) ?_
  refine ⟨_, _, rfl, hp, by walk_at "G:dig", fun d4 g4 l4 => ?_⟩
  refine EO.wo eo_add ?_
  refine EV.we ev_int ?_
  refine EO.wo eo_sub ?_
  refine wa_nil ?_
  refine EC.wc (ec_max rfl) ?_
  have hmx : 0 ≤ (if pw + d4 - 1 > 0 then pw + d4 - 1 else 0) ∧ (if pw + d4 - 1 > 0 then pw + d4 - 1 else 0) < 10000000000000000000000000000000000000000000000000000000000 := by split <;> omega
  generalize (if pw + d4 - 1 > 0 then pw + d4 - 1 else 0) = mx at hmx ⊢
  refine wa_nil ?_
  refine ⟨small (lenle rfl), fun p6 n6 => ?_⟩
  show WSs _ _ _ [_, _, _, _, _, _, _, _] _
  -- _law_limit = _law_pick(_law_pot_here, _law_some + [_law_digit(_law_pot_here, 10 ** 55)])
  refine wss_cons (ws_set (i := 5) sc__law_right.nd rfl ?_)
  refine we_call (ok__law_pick T) c ?_
  refine wa_cons ?_
  refine EV.we (ev_var (i := 0) rfl (.inl rfl) rfl) ?_
  refine wa_cons ?_
  refine we_bin ?_
  refine EV.we (ev_var (i := 4) rfl (.inl rfl) rfl) ?_
  refine we_lst ?_
  refine wa_cons ?_
  refine we_call (ok__law_digit T) c ?_
  refine EA.wa (ea_cons (ev_var (i := 0) rfl (.inl rfl) rfl) (ea_cons (ev_bin ev_int ev_int (eo_pow (by walk_at "G:pow"))) ea_nil)) ?_
  refine ⟨_, _, rfl, by walk_at "G:heap", by walk_at "G:dig", fun d7 g7 l7 => ?_⟩
  have e55 : (10 : Int) ^ (55 : Int).toNat = 10000000000000000000000000000000000000000000000000000000 := by decide +kernel
  rw [e55] at l7
  refine wa_nil ?_
  refine ⟨small (lenle rfl), fun p7 n7 => ?_⟩
  refine wo_cat (by walk_at "G:heap") (by walk_at "G:heap") (by simp) fun p8 n8 => ?_
  refine wa_nil ?_
  refine ⟨_, _, _, rfl, by walk_at "G:heap", by walk_at "G:heap", by simp, by simp, fun v9 m9 => ?_⟩
  obtain ⟨n, rfl, hn0, hn1⟩ : Lim v9 := by
    simp only [List.cons_append, List.nil_append, List.mem_cons, List.not_mem_nil, or_false] at m9
    rcases m9 with rfl | rfl | rfl | rfl | rfl | rfl <;> exact ⟨_, rfl, by omega, by omega⟩
  show WSs _ _ _ [_, _, _, _, _, _, _, _] _
  have np : 0 ≤ (m + 1) * (n + 1) := Int.mul_nonneg (by omega) (by omega)
  have np2 : (m + 1) * (n + 1) ≤ 10 * (n + 1) := Int.mul_le_mul_of_nonneg_right (by omega) (by omega)
  have badc : capAt (.int m) = false → False := fun h => by simp [capAt] at h; omega
  -- if not _law_is_least(guaranteed_step(_law_limit, _law_size), _law_limit, _law_size - 1):
  refine wss_cons (ws_ifE (et_not (k := true) (et_val (ev_call (ok__law_is_least T) c (ea_cons (v := .int (pal ((n + (m - 1) - 1) / (m - 1)))) (ev_call (ok_guaranteed_step T) c (ea_cons (ev_var (i := 5) rfl (.inl rfl) rfl) (ea_cons (ev_var (i := 1) rfl (.inl rfl) rfl) ea_nil)) (fun _ x Q E q => ⟨_, _, _, _, false, rfl, .int _, .int _, fun a b ea eb _ _ _ => by cases ea; cases eb; exact ⟨by omega, q⟩, fun h => (numAt_bad hn0 h).elim, fun h => (badc h).elim⟩)) (ea_cons (ev_var (i := 5) rfl (.inl rfl) rfl) (ea_cons (ev_bin (ev_var (i := 1) rfl (.inl rfl) rfl) ev_int eo_sub) ea_nil)))
    (fun _ x Q E q => ⟨_, _, _, rfl, by omega, by omega, pal_least hn0 (by omega), q⟩)))) (fun h => nomatch h) (fun _ => ?_))
  refine wss_nil ?_
  show WSs _ _ _ [_, _, _, _, _, _, _, _] _
  -- if not _law_is_least(guaranteed_step(_law_limit, _law_size, skips=True), _law_limit, 1):
  refine wss_cons (ws_ifE (et_not (k := true) (et_val (ev_call (ok__law_is_least T) c (ea_cons (v := .int (pal ((n + 1 - 1) / 1))) (ev_callK (kw_guaranteed_step T) c (ea_cons (ev_var (i := 5) rfl (.inl rfl) rfl) (ea_cons (ev_var (i := 1) rfl (.inl rfl) rfl) ea_nil)) (ek_cons ev_bl ek_nil) ⟨rfl, rfl, fun _ x Q E q => ⟨_, _, _, _, true, rfl, .int _, .int _, fun a b ea eb _ _ _ => by cases ea; cases eb; exact ⟨by omega, q⟩, fun h => (numAt_bad hn0 h).elim, fun h => (badc h).elim⟩⟩) (ea_cons (ev_var (i := 5) rfl (.inl rfl) rfl) (ea_cons ev_int ea_nil)))
    (fun _ x Q E q => ⟨_, _, _, rfl, by omega, by omega, pal_least hn0 (by omega), q⟩)))) (fun h => nomatch h) (fun _ => ?_))
  refine wss_nil ?_
  show WSs _ _ _ [_, _, _, _, _, _, _, _] _
  -- if guaranteed_step(_law_limit, _law_size, skips=False) != guaranteed_step(_law_limit, _law_size):
  refine wss_cons (ws_ifE (et_cmp (x := .int (pal ((n + (m - 1) - 1) / (m - 1)))) (y := .int (pal ((n + (m - 1) - 1) / (m - 1)))) (ev_callK (kw_guaranteed_step T) c (ea_cons (ev_var (i := 5) rfl (.inl rfl) rfl) (ea_cons (ev_var (i := 1) rfl (.inl rfl) rfl) ea_nil)) (ek_cons ev_bl ek_nil) ⟨rfl, rfl, fun _ x Q E q => ⟨_, _, _, _, false, rfl, .int _, .int _, fun a b ea eb _ _ _ => by cases ea; cases eb; exact ⟨by omega, q⟩, fun h => (numAt_bad hn0 h).elim, fun h => (badc h).elim⟩⟩)
    (ev_call (ok_guaranteed_step T) c (ea_cons (ev_var (i := 5) rfl (.inl rfl) rfl) (ea_cons (ev_var (i := 1) rfl (.inl rfl) rfl) ea_nil)) (fun _ x Q E q => ⟨_, _, _, _, false, rfl, .int _, .int _, fun a b ea eb _ _ _ => by cases ea; cases eb; exact ⟨by omega, q⟩, fun h => (numAt_bad hn0 h).elim, fun h => (badc h).elim⟩)) eo_neI) (fun h => by simp at h) (fun _ => ?_))
  refine wss_nil ?_
  show WSs _ _ _ [_, _, _, _, _, _, _, _] _
  -- _law_period = _law_limit + 1
  refine wss_cons (ws_set (i := 6) sc__law_right.nd rfl ?_)
  refine EV.we (ev_bin (ev_var (i := 5) rfl (.inl rfl) rfl) ev_int eo_add) ?_
  show WSs _ _ _ [_, _, _, _, _, _, _, _] _
  -- _law_told = step_for_period(_law_period, _law_size)
  refine wss_cons (ws_set (i := 7) sc__law_right.nd rfl ?_)
  refine EV.we (v := .int (pal (((m + 1) * (n + 1) + (m - 1) - 1) / (m - 1)))) (ev_call (ok_step_for_period T) c (ea_cons (ev_var (i := 6) rfl (.inl rfl) rfl) (ea_cons (ev_var (i := 1) rfl (.inl rfl) rfl) ea_nil)) (fun _ x Q E q => ⟨_, _, _, _, rfl, .int _, .int _, fun a b ea eb _ _ _ => by cases ea; cases eb; exact ⟨by omega, q⟩, fun h => by simp [numAt] at h; omega, fun h => (badc h).elim⟩)) ?_
  show WSs _ _ _ [_, _, _, _, _, _, _, _] _
  -- return _law_is_least(..) and _law_told == guaranteed_step((_law_size + 1) * _law_period, _law_size)
  refine wss_one (ws_retE (EV.is (ev_andV (k := true) (ev_call (ok__law_is_least T) c (ea_cons (ev_var (i := 7) rfl (.inl rfl) rfl) (ea_cons (ev_bin (ev_bin (ev_var (i := 1) rfl (.inl rfl) rfl) ev_int eo_add) (ev_var (i := 6) rfl (.inl rfl) rfl) (eo_mul (by walk_at "G:mul"))) (ea_cons (ev_bin (ev_var (i := 1) rfl (.inl rfl) rfl) ev_int eo_sub) ea_nil))) (fun _ x Q E q => ⟨_, _, _, rfl, by omega, by omega, pal_least np (by omega), q⟩)) fun _ =>
    ev_one (ev_cmp (y := .int (pal (((m + 1) * (n + 1) + (m - 1) - 1) / (m - 1)))) (ev_var (i := 7) rfl (.inl rfl) rfl) (ev_call (ok_guaranteed_step T) c (ea_cons (ev_bin (ev_bin (ev_var (i := 1) rfl (.inl rfl) rfl) ev_int eo_add) (ev_var (i := 6) rfl (.inl rfl) rfl) (eo_mul (by walk_at "G:mul"))) (ea_cons (ev_var (i := 1) rfl (.inl rfl) rfl) ea_nil)) (fun _ x Q E q => ⟨_, _, _, _, false, rfl, .int _, .int _, fun a b ea eb _ _ _ => by cases ea; cases eb; exact ⟨by omega, q⟩, fun h => (numAt_bad np h).elim, fun h => (badc h).elim⟩)) eo_eqI)) (w := .bl true) (by simp)) ⟨H, ?_, q⟩)
  walk_at "G:ex"
def sp_law (K : PySem.W.Frag) : Sp := fun vs H Q _ => ∃ (a : Addr) (ns : List Int), vs = [.ref a] ∧ SqL K H a (ns.map V.int) ∧ ∀ H', Q (.bl true) H'
theorem ok_law (T : All K mg) : FnG P w K mg base 8 T.law.f T.law.fd ["_law_script"] (sp_law K) := by
  refine T.law.fng sc_law (fun vs H Q E h => ?_) fun cd A outer s H1 E1 W vs H Q E c o hW h => ?_
  · obtain ⟨_, _, rfl, _⟩ := h; rfl
  obtain ⟨a, ns, rfl, hs, q⟩ := h
  show WSs _ _ _ [_, _, _, _] _
  -- for _law_k in range(max(1, min(8, len(_law_script)))):
  refine wss_cons (ws_eachR (c.t o) T.n_range (ev_callB T.n_max PyProof.Rows.boot_max (ea_cons ev_int (ea_cons (ev_callB T.n_min PyProof.Rows.boot_min (ea_cons ev_int (ea_cons (ev_callB T.n_len PySem.boot_len (ea_cons (ev_var (i := 0) rfl (.inl rfl) rfl) ea_nil) (ec_lenL hs)) ea_nil)) (ec_min rfl)) ea_nil)) (ec_max rfl)) (turns_le (by decide)) turns_ge
    (fun _ σ' => ∃ a1 a2 a3, σ' = [some (.ref a), a1, a2, a3]) ⟨_, _, _, rfl⟩ (fun i σ' hi hp => ?_) (fun σ' hp => ?_))
  · obtain ⟨a1, a2, a3, rfl⟩ := hp
    have hi := turns_lt (by decide) hi
    refine wg_name (i := 1) sc_law.nd rfl ?_
    show WSs _ _ _ [_, _, _, _] _
    -- _law_pot_here = _law_pot(_law_script, _law_k)
    refine wss_cons (ws_set (i := 2) sc_law.nd rfl ?_)
    refine we_call (ok__law_pot T) c ?_
    refine EA.wa (ea_cons (ev_var (i := 0) rfl (.inl rfl) rfl) (ea_cons (ev_var (i := 1) rfl (.inl rfl) rfl) ea_nil)) ?_
    refine ⟨_, _, _, rfl, hs, by walk_at "G:side", by walk_at "G:side", fun p0 n0 => ?_⟩
    show WSs _ _ _ [_, _, _, _] _
    -- if not all([_law_right(_law_pot_here, _law_size) for _law_size in range(2, 10)]):
    refine wss_cons (ws_if ?_)
    refine wt_not (wt_val ?_)
    refine we_callB T.n_all boot_all ?_
    refine wa_cons ?_
    refine we_lc0 (own := [("_law_size", 3)]) ?_ (pi_range2 rfl T.n_range pa_W) sc_law.nd (blk_fx (by decide +kernel))
    refine wl_rng2 st0_ok (ea_cons ev_int (ea_cons ev_int ea_nil)) (by decide) (by decide) (fun i acc => acc = List.replicate i (V.bl true)) rfl (fun i acc hi hp => ?_) (fun ys p1 hp hl n1 => ?_)
    · intro d nd s H0 C cl fp
      refine wg_name (i := 3) sc_law.nd rfl ⟨rfl, fun s2 H2 C2 cl2 fp2 => ?_⟩
      refine we_call (ok__law_right T) (c.blk _ _ _ _ _ _) ?_
      refine EA.wa (ea_cons (ev_var (i := 2) rfl (by walk_at "G:vis") rfl) (ea_cons (ev_var (i := 3) rfl (by walk_at "G:vis") rfl) ea_nil)) ?_
      refine ⟨p0, _, rfl, by walk_at "G:heap", by omega, by omega, by walk_at "G:ex", ?_⟩
      rw [hp]
      exact List.replicate_succ'.symm
    subst hp
    refine wa_nil ?_
    refine EC.wc (ec_all (ns := List.replicate 8 true) (.of (by rw [List.map_replicate]; exact upd_same)) rfl) ?_
    rw [all_rep]
    refine ⟨true, rfl, ?_⟩
    refine iteF ?_
    refine wss_nil ?_
    exact wss_nil ⟨by walk_at "G:ex", _, _, _, rfl⟩
  · obtain ⟨a1, a2, a3, rfl⟩ := hp
    -- return True
    exact wss_one (ws_ret (EV.we ev_bl (q _)))
end

theorem fin {l : PySem.W.OpenLaw} {w : World} {K : PySem.W.Frag} {h : Heap} {mg : Str → Option Value} {fa f0 f1 f2 f3 f4 D4 f5 f6 f7 f8 f9 f10 f11 C_InvalidNumber C_InvalidCapacity : Addr} {od0 an0 od1 an1 od2 an2 od3 an3 od4 an4 od5 an5 od6 an6 od7 an7 od8 an8 od9 an9 od10 an10 od11 an11 : Option Addr} {sl0 sl1 sl2 sl3 sl4 sl5 sl6 sl7 sl8 sl9 sl10 sl11 : Array (Option Value)} {oc0 kV0 dc0 pm0 cd0 ct0 oc1 kV1 dc1 pm1 cd1 ct1 oc2 kV2 dc2 pm2 cd2 ct2 oc3 kV3 dc3 pm3 cd3 ct3 oc4 dc4 pm4 cd4 ct4 oc5 kV5 dc5 pm5 cd5 ct5 oc6 kV6 dc6 pm6 cd6 ct6 oc7 kV7 dc7 pm7 cd7 ct7 oc8 kV8 dc8 pm8 cd8 ct8 oc9 kV9 dc9 pm9 cd9 ct9 oc10 kV10 dc10 pm10 cd10 ct10 oc11 kV11 dc11 pm11 cd11 ct11 : Value} {t_LEAST_CAPACITY t_MOST_CAPACITY : Tok} (X : K.In h) (G : h.Ns mainGlobals mg) (hfa : mg "law" = some (.ref fa))
    (a0 : PySem.W.nsIn K mainGlobals "is_int" = some (some (.ref f0)))
    (l0 : K.lookup f0 = some ⟨oc0, od0, .func (PySem.W.fnOf "is_int" "is_int" (defArgs s_is_int) (defBody s_is_int) (defScope s_is_int) .none kV0 dc0 pm0 an0 cd0 ct0), sl0⟩)
    (c0 : PySem.W.codeIn K cd0 "is_int" = true)
    (k0 : PySem.W.keepIn K (.ref f0) = true)
    (a1 : PySem.W.nsIn K mainGlobals "want_number" = some (some (.ref f1)))
    (l1 : K.lookup f1 = some ⟨oc1, od1, .func (PySem.W.fnOf "want_number" "want_number" (defArgs s_want_number) (defBody s_want_number) (defScope s_want_number) .none kV1 dc1 pm1 an1 cd1 ct1), sl1⟩)
    (c1 : PySem.W.codeIn K cd1 "want_number" = true)
    (k1 : PySem.W.keepIn K (.ref f1) = true)
    (a2 : PySem.W.nsIn K mainGlobals "power_at_least" = some (some (.ref f2)))
    (l2 : K.lookup f2 = some ⟨oc2, od2, .func (PySem.W.fnOf "power_at_least" "power_at_least" (defArgs s_power_at_least) (defBody s_power_at_least) (defScope s_power_at_least) .none kV2 dc2 pm2 an2 cd2 ct2), sl2⟩)
    (c2 : PySem.W.codeIn K cd2 "power_at_least" = true)
    (k2 : PySem.W.keepIn K (.ref f2) = true)
    (a3 : PySem.W.nsIn K mainGlobals "want_capacity" = some (some (.ref f3)))
    (l3 : K.lookup f3 = some ⟨oc3, od3, .func (PySem.W.fnOf "want_capacity" "want_capacity" (defArgs s_want_capacity) (defBody s_want_capacity) (defScope s_want_capacity) .none kV3 dc3 pm3 an3 cd3 ct3), sl3⟩)
    (c3 : PySem.W.codeIn K cd3 "want_capacity" = true)
    (k3 : PySem.W.keepIn K (.ref f3) = true)
    (a4 : PySem.W.nsIn K mainGlobals "guaranteed_step" = some (some (.ref f4)))
    (l4 : K.lookup f4 = some ⟨oc4, od4, .func (PySem.W.fnOf "guaranteed_step" "guaranteed_step" (defArgs s_guaranteed_step) (defBody s_guaranteed_step) (defScope s_guaranteed_step) .none (.ref D4) dc4 pm4 an4 cd4 ct4), sl4⟩)
    (c4 : PySem.W.codeIn K cd4 "guaranteed_step" = true)
    (k4 : PySem.W.keepIn K (.ref f4) = true)
    (kd4_0 : PySem.W.nsIn K D4 "skips" = some (some (.bool false)))
    (a5 : PySem.W.nsIn K mainGlobals "step_for_period" = some (some (.ref f5)))
    (l5 : K.lookup f5 = some ⟨oc5, od5, .func (PySem.W.fnOf "step_for_period" "step_for_period" (defArgs s_step_for_period) (defBody s_step_for_period) (defScope s_step_for_period) .none kV5 dc5 pm5 an5 cd5 ct5), sl5⟩)
    (c5 : PySem.W.codeIn K cd5 "step_for_period" = true)
    (k5 : PySem.W.keepIn K (.ref f5) = true)
    (a6 : PySem.W.nsIn K mainGlobals "_law_pot" = some (some (.ref f6)))
    (l6 : K.lookup f6 = some ⟨oc6, od6, .func (PySem.W.fnOf "_law_pot" "_law_pot" (defArgs s__law_pot) (defBody s__law_pot) (defScope s__law_pot) .none kV6 dc6 pm6 an6 cd6 ct6), sl6⟩)
    (c6 : PySem.W.codeIn K cd6 "_law_pot" = true)
    (k6 : PySem.W.keepIn K (.ref f6) = true)
    (a7 : PySem.W.nsIn K mainGlobals "_law_digit" = some (some (.ref f7)))
    (l7 : K.lookup f7 = some ⟨oc7, od7, .func (PySem.W.fnOf "_law_digit" "_law_digit" (defArgs s__law_digit) (defBody s__law_digit) (defScope s__law_digit) .none kV7 dc7 pm7 an7 cd7 ct7), sl7⟩)
    (c7 : PySem.W.codeIn K cd7 "_law_digit" = true)
    (k7 : PySem.W.keepIn K (.ref f7) = true)
    (a8 : PySem.W.nsIn K mainGlobals "_law_pick" = some (some (.ref f8)))
    (l8 : K.lookup f8 = some ⟨oc8, od8, .func (PySem.W.fnOf "_law_pick" "_law_pick" (defArgs s__law_pick) (defBody s__law_pick) (defScope s__law_pick) .none kV8 dc8 pm8 an8 cd8 ct8), sl8⟩)
    (c8 : PySem.W.codeIn K cd8 "_law_pick" = true)
    (k8 : PySem.W.keepIn K (.ref f8) = true)
    (a9 : PySem.W.nsIn K mainGlobals "_law_is_least" = some (some (.ref f9)))
    (l9 : K.lookup f9 = some ⟨oc9, od9, .func (PySem.W.fnOf "_law_is_least" "_law_is_least" (defArgs s__law_is_least) (defBody s__law_is_least) (defScope s__law_is_least) .none kV9 dc9 pm9 an9 cd9 ct9), sl9⟩)
    (c9 : PySem.W.codeIn K cd9 "_law_is_least" = true)
    (k9 : PySem.W.keepIn K (.ref f9) = true)
    (a10 : PySem.W.nsIn K mainGlobals "_law_right" = some (some (.ref f10)))
    (l10 : K.lookup f10 = some ⟨oc10, od10, .func (PySem.W.fnOf "_law_right" "_law_right" (defArgs s__law_right) (defBody s__law_right) (defScope s__law_right) .none kV10 dc10 pm10 an10 cd10 ct10), sl10⟩)
    (c10 : PySem.W.codeIn K cd10 "_law_right" = true)
    (k10 : PySem.W.keepIn K (.ref f10) = true)
    (a11 : PySem.W.nsIn K mainGlobals "law" = some (some (.ref f11)))
    (l11 : K.lookup f11 = some ⟨oc11, od11, .func (PySem.W.fnOf "law" "law" (defArgs s_law) (defBody s_law) (defScope s_law) .none kV11 dc11 pm11 an11 cd11 ct11), sl11⟩)
    (c11 : PySem.W.codeIn K cd11 "law" = true)
    (k11 : PySem.W.keepIn K (.ref f11) = true)
    (g_InvalidNumber : PySem.W.nsIn K mainGlobals "InvalidNumber" = some (some (.ref C_InvalidNumber)))
    (sb_InvalidNumber : PySem.W.subIn K (.ref C_InvalidNumber) (.type "BaseException") = some true)
    (ty_InvalidNumber : PySem.W.typeIn K (.ref C_InvalidNumber) = some (.type "type"))
    (dd_InvalidNumber : PySem.W.hasDictIn K C_InvalidNumber = true)
    (xc_InvalidNumber : PySem.W.excIn K C_InvalidNumber [.type "ValueError", .type "Exception", .type "BaseException", .type "object"] "ValueError.__new__" = true)
    (kp_InvalidNumber : PySem.W.keepIn K (.ref C_InvalidNumber) = true)
    (g_InvalidCapacity : PySem.W.nsIn K mainGlobals "InvalidCapacity" = some (some (.ref C_InvalidCapacity)))
    (sb_InvalidCapacity : PySem.W.subIn K (.ref C_InvalidCapacity) (.type "BaseException") = some true)
    (ty_InvalidCapacity : PySem.W.typeIn K (.ref C_InvalidCapacity) = some (.type "type"))
    (dd_InvalidCapacity : PySem.W.hasDictIn K C_InvalidCapacity = true)
    (xc_InvalidCapacity : PySem.W.excIn K C_InvalidCapacity [.type "ValueError", .type "Exception", .type "BaseException", .type "object"] "ValueError.__new__" = true)
    (kp_InvalidCapacity : PySem.W.keepIn K (.ref C_InvalidCapacity) = true)
    (q_LEAST_CAPACITY : PySem.W.nsIn K mainGlobals "LEAST_CAPACITY" = some (some (.int 2 t_LEAST_CAPACITY)))
    (q_MOST_CAPACITY : PySem.W.nsIn K mainGlobals "MOST_CAPACITY" = some (some (.int 9 t_MOST_CAPACITY)))
    (z_ValueError : PySem.W.nsIn K mainGlobals "ValueError" = some none)
    (z_abs : PySem.W.nsIn K mainGlobals "abs" = some none)
    (z_all : PySem.W.nsIn K mainGlobals "all" = some none)
    (z_bool : PySem.W.nsIn K mainGlobals "bool" = some none)
    (z_divmod : PySem.W.nsIn K mainGlobals "divmod" = some none)
    (z_int : PySem.W.nsIn K mainGlobals "int" = some none)
    (z_isinstance : PySem.W.nsIn K mainGlobals "isinstance" = some none)
    (z_len : PySem.W.nsIn K mainGlobals "len" = some none)
    (z_max : PySem.W.nsIn K mainGlobals "max" = some none)
    (z_min : PySem.W.nsIn K mainGlobals "min" = some none)
    (z_range : PySem.W.nsIn K mainGlobals "range" = some none)
    : ∃ fd : FuncData, (∀ (s : Shared) (u : Value), BindsTo s fd ⟨[u], []⟩ [("_law_script", u)]) ∧ ∀ base : Heap, FnG l.prog w K mg base 8 fa fd ["_law_script"] (sp_law K) :=
  let T : All K mg := {
    is_int := def_mk ["value"] X G a0 l0 c0 k0 fun us hl => match us, hl with | [_], _ => rfl,
    want_number := def_mk ["value", "least"] X G a1 l1 c1 k1 fun us hl => match us, hl with | [_, _], _ => rfl,
    power_at_least := def_mk ["number"] X G a2 l2 c2 k2 fun us hl => match us, hl with | [_], _ => rfl,
    want_capacity := def_mk ["capacity"] X G a3 l3 c3 k3 fun us hl => match us, hl with | [_], _ => rfl,
    guaranteed_step := ⟨f4, _, ⟨⟨_, _, _, _, _, _, _, _, _, _, rfl, l4, c4, .inl ⟨rfl, rfl⟩, .inr ⟨D4, rfl, fun z hz => by simp only [List.mem_cons, List.not_mem_nil, or_false] at hz; rcases hz with rfl <;> first | exact ⟨_, kd4_0, rfl⟩⟩⟩, k4⟩, PySem.W.mg_of X G a4⟩,
    step_for_period := def_mk ["period", "capacity"] X G a5 l5 c5 k5 fun us hl => match us, hl with | [_, _], _ => rfl,
    _law_pot := def_mk ["_law_script", "_law_k"] X G a6 l6 c6 k6 fun us hl => match us, hl with | [_, _], _ => rfl,
    _law_digit := def_mk ["_law_pot_here", "_law_many"] X G a7 l7 c7 k7 fun us hl => match us, hl with | [_, _], _ => rfl,
    _law_pick := def_mk ["_law_pot_here", "_law_some"] X G a8 l8 c8 k8 fun us hl => match us, hl with | [_, _], _ => rfl,
    _law_is_least := def_mk ["_law_told", "_law_limit", "_law_times"] X G a9 l9 c9 k9 fun us hl => match us, hl with | [_, _, _], _ => rfl,
    _law_right := def_mk ["_law_pot_here", "_law_size"] X G a10 l10 c10 k10 fun us hl => match us, hl with | [_, _], _ => rfl,
    law := def_mk ["_law_script"] X G a11 l11 c11 k11 fun us hl => match us, hl with | [_], _ => rfl,
    InvalidNumber := C_InvalidNumber,
    InvalidNumber_g := PySem.W.mg_of X G g_InvalidNumber,
    InvalidNumber_e := ⟨PySem.W.mg_of X G g_InvalidNumber, xc_InvalidNumber, kp_InvalidNumber, sb_InvalidNumber, ty_InvalidNumber, dd_InvalidNumber⟩,
    InvalidCapacity := C_InvalidCapacity,
    InvalidCapacity_g := PySem.W.mg_of X G g_InvalidCapacity,
    InvalidCapacity_e := ⟨PySem.W.mg_of X G g_InvalidCapacity, xc_InvalidCapacity, kp_InvalidCapacity, sb_InvalidCapacity, ty_InvalidCapacity, dd_InvalidCapacity⟩,
    LEAST_CAPACITY_g := ⟨t_LEAST_CAPACITY, PySem.W.mg_of X G q_LEAST_CAPACITY⟩,
    MOST_CAPACITY_g := ⟨t_MOST_CAPACITY, PySem.W.mg_of X G q_MOST_CAPACITY⟩,
    n_ValueError := PySem.W.mg_none_of X G z_ValueError,
    n_abs := PySem.W.mg_none_of X G z_abs,
    n_all := PySem.W.mg_none_of X G z_all,
    n_bool := PySem.W.mg_none_of X G z_bool,
    n_divmod := PySem.W.mg_none_of X G z_divmod,
    n_int := PySem.W.mg_none_of X G z_int,
    n_isinstance := PySem.W.mg_none_of X G z_isinstance,
    n_len := PySem.W.mg_none_of X G z_len,
    n_max := PySem.W.mg_none_of X G z_max,
    n_min := PySem.W.mg_none_of X G z_min,
    n_range := PySem.W.mg_none_of X G z_range }
  law_end T.law hfa (fun us hl => match us, hl with | [_], _ => rfl) fun base => ok_law T
end L2.G
open PySem PySem.W PyProof.Rows
set_option maxRecDepth 100000 in
set_option maxHeartbeats 0 in
theorem PySem.Challenge.cw_sampledversions_k85_bounds_as_numbers_holds : PySem.Challenge.rw_sampledversions_k85_bounds_as_numbers.Holds := by
  w_on; o_law; k_head; (case hw => w_witness2)
  k_fill
  refine L2.G.walk_end (l := PySem.Challenge.rw_sampledversions_k85_bounds_as_numbers) (n := 63) (k := 8) (x := "_law_script") (sp := fun w => L2.G.sp_law _) rfl (by decide) rfl ⟨rfl, by decide, by decide⟩ (fun w h Y => PySem.W.kIn_of Y) ?F (fun w H a ns hl hb hO hS => ⟨a, ns, rfl, hS, fun _ => rfl⟩)
  case F =>
    intro w mg fa h KX G hmg
    refine' L2.G.fin KX G hmg ?a0 ?l0 ?c0 ?k0 ?a1 ?l1 ?c1 ?k1 ?a2 ?l2 ?c2 ?k2 ?a3 ?l3 ?c3 ?k3 ?a4 ?l4 ?c4 ?k4 ?kd4_0 ?a5 ?l5 ?c5 ?k5 ?a6 ?l6 ?c6 ?k6 ?a7 ?l7 ?c7 ?k7 ?a8 ?l8 ?c8 ?k8 ?a9 ?l9 ?c9 ?k9 ?a10 ?l10 ?c10 ?k10 ?a11 ?l11 ?c11 ?k11 ?g_InvalidNumber ?sb_InvalidNumber ?ty_InvalidNumber ?dd_InvalidNumber ?xc_InvalidNumber ?kp_InvalidNumber ?g_InvalidCapacity ?sb_InvalidCapacity ?ty_InvalidCapacity ?dd_InvalidCapacity ?xc_InvalidCapacity ?kp_InvalidCapacity ?q_LEAST_CAPACITY ?q_MOST_CAPACITY ?z_ValueError ?z_abs ?z_all ?z_bool ?z_divmod ?z_int ?z_isinstance ?z_len ?z_max ?z_min ?z_range
    (case a0 => k_is)
    (case l0 => k_is)
    (case c0 => k_is)
    (case k0 => k_is)
    (case a1 => k_is)
    (case l1 => k_is)
    (case c1 => k_is)
    (case k1 => k_is)
    (case a2 => k_is)
    (case l2 => k_is)
    (case c2 => k_is)
    (case k2 => k_is)
    (case a3 => k_is)
    (case l3 => k_is)
    (case c3 => k_is)
    (case k3 => k_is)
    (case a4 => k_is)
    (case l4 => k_is)
    (case c4 => k_is)
    (case k4 => k_is)
    (case kd4_0 => k_is)
    (case a5 => k_is)
    (case l5 => k_is)
    (case c5 => k_is)
    (case k5 => k_is)
    (case a6 => k_is)
    (case l6 => k_is)
    (case c6 => k_is)
    (case k6 => k_is)
    (case a7 => k_is)
    (case l7 => k_is)
    (case c7 => k_is)
    (case k7 => k_is)
    (case a8 => k_is)
    (case l8 => k_is)
    (case c8 => k_is)
    (case k8 => k_is)
    (case a9 => k_is)
    (case l9 => k_is)
    (case c9 => k_is)
    (case k9 => k_is)
    (case a10 => k_is)
    (case l10 => k_is)
    (case c10 => k_is)
    (case k10 => k_is)
    (case a11 => k_is)
    (case l11 => k_is)
    (case c11 => k_is)
    (case k11 => k_is)
    (case g_InvalidNumber => k_is)
    (case sb_InvalidNumber => k_is)
    (case ty_InvalidNumber => k_is)
    (case dd_InvalidNumber => k_is)
    (case xc_InvalidNumber => k_exc)
    (case kp_InvalidNumber => k_is)
    (case g_InvalidCapacity => k_is)
    (case sb_InvalidCapacity => k_is)
    (case ty_InvalidCapacity => k_is)
    (case dd_InvalidCapacity => k_is)
    (case xc_InvalidCapacity => k_exc)
    (case kp_InvalidCapacity => k_is)
    (case q_LEAST_CAPACITY => k_is)
    (case q_MOST_CAPACITY => k_is)
    (case z_ValueError => k_is)
    (case z_abs => k_is)
    (case z_all => k_is)
    (case z_bool => k_is)
    (case z_divmod => k_is)
    (case z_int => k_is)
    (case z_isinstance => k_is)
    (case z_len => k_is)
    (case z_max => k_is)
    (case z_min => k_is)
    (case z_range => k_is)

