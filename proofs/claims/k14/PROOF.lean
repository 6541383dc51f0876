import PyProof.Rows.All
import Wide.All
import OpenK.AllK
import Wide.FinOn
import HandS.ForMost
import HandS.Exc
import HandS.TryOnly
import HandS.TryMany
import HandS.ExcOwn
import HandS.ExcInit
import HandS.ExcIs
import HandS.Small
import HandS.IsInst
import HandS.WideBits
import HandS.FStr
import HandS.WordsExc
import HandS.RaiseMore
import HandS.EndBits
import HandS.Comp
import HandS.List
import HandS.Iter
import PyProof.ReprRoads
import PyProof.ReprBulk
import HandS.Style
import PyProof.SumWalkG
import HandS.Defaults
import HandS.MakeKwOnly
import HandS.Walk
import HandS.TupLe
import HandS.SortInts
import PySem.Challenge.RW_sampledversions_k14_counts_by_division
set_option Elab.async false
set_option linter.all false
set_option maxRecDepth 100000
set_option maxHeartbeats 4000000
namespace L2.G
open PySem PySem.Spec PyProof.Rows
/-! A layer of our own over HandS: weakest preconditions on the expressions themselves, the heap known from below, calls with no repr at work. -/

/-! ## heaps from below -/
def Ex (H H' : Hp) : Prop := ∀ a o, H a = some o → H' a = some o
theorem Ex.refl (H : Hp) : Ex H H := fun _ _ h => h
theorem Ex.trans {H H1 H2 : Hp} (a : Ex H H1) (b : Ex H1 H2) : Ex H H2 := fun x o h => b x o (a x o h)
theorem Ex.free {H H' : Hp} (e : Ex H H') {p : Addr} (h : H' p = none) : H p = none := by
  cases q : H p with
  | none => rfl
  | some o => rw [e p o q] at h; cases h
theorem Ex.new {H H' : Hp} {p : Addr} {o : HO} (e : Ex H H') (h : H' p = none) : Ex H (upd H' p o) := fun a u ha => by
  rw [upd_ne (ne_of_none (e a u ha) h)]
  exact e a u ha
theorem Ex.set {H H' : Hp} (e : Ex H H') (p : Addr) (o : HO) : Ex (upd H p o) (upd H' p o) := fun a u ha => by
  by_cases h : a = p
  · subst h; rw [upd_same] at ha ⊢; exact ha
  · rw [upd_ne h] at ha ⊢; exact e a u ha
theorem Ex.put {H : Hp} {p : Addr} {o : HO} (h : H p = none) : Ex H (upd H p o) := Ex.new (Ex.refl H) h
theorem Ex.rd {H H' : Hp} {a : Addr} {u : HO} (e : Ex H H') (h : Rd H a u) : Rd H' a u := by
  rcases h with h | ⟨o, h⟩
  · exact Or.inl (e a _ h)
  · exact Or.inr ⟨o, e a _ h⟩
theorem Ex.sqL {K : PySem.W.Frag} {H H' : Hp} {a : Addr} {xs : List V} (e : Ex H H') (h : SqL K H a xs) : SqL K H' a xs := by
  rcases h with h | h
  · exact Or.inl (e.rd h)
  · exact Or.inr h
theorem Ex.sqT {K : PySem.W.Frag} {H H' : Hp} {a : Addr} {xs : List V} (e : Ex H H') (h : SqT K H a xs) : SqT K H' a xs := by
  rcases h with h | h
  · exact Or.inl (e.rd h)
  · exact Or.inr h

/-! ## wishes, lifted -/
def up (Q : VK) : VK := fun v H2 => ∃ H', Ex H' H2 ∧ Q v H'
def upB (Q : Bool → Hp → Prop) : Bool → Hp → Prop := fun v H2 => ∃ H', Ex H' H2 ∧ Q v H'
def upA (Q : List V → Hp → Prop) : List V → Hp → Prop := fun v H2 => ∃ H', Ex H' H2 ∧ Q v H'
def upS (Q : St → Hp → Prop) : St → Hp → Prop := fun v H2 => ∃ H', Ex H' H2 ∧ Q v H'
def upE (Q : XK) : XK := fun c d H2 => ∃ H', Ex H' H2 ∧ Q c d H'
def upD (D : Ends) : Ends := { nx := upS D.nx, rt := up D.rt, bk := upS D.bk, ct := upS D.ct }
theorem up.i {Q : VK} {v : V} {H : Hp} (q : Q v H) : up Q v H := ⟨H, Ex.refl H, q⟩
theorem upS.i {Q : St → Hp → Prop} {v : St} {H : Hp} (q : Q v H) : upS Q v H := ⟨H, Ex.refl H, q⟩
theorem upB.i {Q : Bool → Hp → Prop} {v : Bool} {H : Hp} (q : Q v H) : upB Q v H := ⟨H, Ex.refl H, q⟩
theorem upA.i {Q : List V → Hp → Prop} {v : List V} {H : Hp} (q : Q v H) : upA Q v H := ⟨H, Ex.refl H, q⟩

/-! ## weakest preconditions -/
def WE (X : Cx) (e : Expr) (σ : St) (H : Hp) (Q : VK) : Prop :=
  ∀ H1, Ex H H1 → ∀ pins s, Inv X pins σ H1 s → wpAny (model X.prog X.w) X.A (eval e X.env) (EP X pins σ (up Q)) X.xe s
def WT (X : Cx) (e : Expr) (σ : St) (H : Hp) (Q : Bool → Hp → Prop) : Prop :=
  ∀ H1, Ex H H1 → ∀ pins s, Inv X pins σ H1 s → wpAny (model X.prog X.w) X.A (isTrue e X.env (eval e X.env)) (TP X pins σ (upB Q)) X.xe s
def WW (X : Cx) (e : Expr) (σ : St) (H : Hp) (Q : Bool → Hp → Prop) : Prop :=
  ∀ H1, Ex H H1 → ∀ whole pins s, Inv X pins σ H1 s → wpAny (model X.prog X.w) X.A (isTrue e X.env whole) (TP X pins σ (upB Q)) X.xe s
def WA (X : Cx) (es : List Expr) (σ : St) (H : Hp) (Q : List V → Hp → Prop) : Prop :=
  ∀ H1, Ex H H1 → ∀ pos pins s, Inv X pins σ H1 s → wpAny (model X.prog X.w) X.A (spliced (backTo pos (starEach es X.env))) (AP X pins σ (upA Q)) X.xe s
def WS (X : Cx) (st : Stmt) (D : Ends) (σ : St) (H : Hp) : Prop :=
  ∀ H1, Ex H H1 → ∀ pins s, Inv X pins σ H1 s → wpAny (model X.prog X.w) X.A (exec st X.env) (SP X pins (upD D)) X.xe s
def WSs (X : Cx) (st : List Stmt) (D : Ends) (σ : St) (H : Hp) : Prop :=
  ∀ H1, Ex H H1 → ∀ pins s, Inv X pins σ H1 s → wpAny (model X.prog X.w) X.A (execs st X.env) (SP X pins (upD D)) X.xe s
/-- an operation on two values | a call of a value | a method's call | a subscript -/
def WO (X : Cx) (f : Value → Value → Sem Value) (x y : V) (H : Hp) (Q : VK) : Prop :=
  ∀ H1, Ex H H1 → ∀ pins s σ v u, Inv X pins σ H1 s → RelV x v → RelV y u → wpAny (model X.prog X.w) X.A (f v u) (EP X pins σ (up Q)) X.xe s
def WC (X : Cx) (f : Value) (xs : List V) (H : Hp) (Q : VK) : Prop :=
  ∀ H1, Ex H H1 → ∀ pins s σ us, Inv X pins σ H1 s → Vals xs us → wpAny (model X.prog X.w) X.A (call f us) (EP X pins σ (up Q)) X.xe s

section
variable {X : Cx} {e a b c : Expr} {es : List Expr} {st : Stmt} {sts : List Stmt} {σ : St} {H H1 H' : Hp} {Q Q1 : VK} {QB QB1 : Bool → Hp → Prop} {QA QA1 : List V → Hp → Prop} {D : Ends} {x y z v : V} {pos : Pos} {f : Value → Value → Sem Value} {fn : Value} {xs : List V}

/-- the readings that HandS's rules take -/
def tWE (X : Cx) (e : Expr) : TE := fun σ H1 Q1 => ∃ H Q, Ex H H1 ∧ WE X e σ H Q ∧ ∀ v H2, up Q v H2 → Q1 v H2
def tWT (X : Cx) (e : Expr) : TT := fun σ H1 Q1 => ∃ H Q, Ex H H1 ∧ WT X e σ H Q ∧ ∀ v H2, upB Q v H2 → Q1 v H2
def tWW (X : Cx) (e : Expr) : TT := fun σ H1 Q1 => ∃ H Q, Ex H H1 ∧ WW X e σ H Q ∧ ∀ v H2, upB Q v H2 → Q1 v H2
def tWA (X : Cx) (es : List Expr) : TA := fun σ H1 Q1 => ∃ H Q, Ex H H1 ∧ WA X es σ H Q ∧ ∀ v H2, upA Q v H2 → Q1 v H2
structure EndsLe (D D1 : Ends) : Prop where
  nx : ∀ σ H, upS D.nx σ H → D1.nx σ H
  rt : ∀ v H, up D.rt v H → D1.rt v H
  bk : ∀ σ H, upS D.bk σ H → D1.bk σ H
  ct : ∀ σ H, upS D.ct σ H → D1.ct σ H
def tWS (X : Cx) (st : Stmt) : TS := fun D1 σ H1 => ∃ H D, Ex H H1 ∧ WS X st D σ H ∧ EndsLe D D1
def tWSs (X : Cx) (st : List Stmt) : TS := fun D1 σ H1 => ∃ H D, Ex H H1 ∧ WSs X st D σ H ∧ EndsLe D D1
def rWO (X : Cx) (f : Value → Value → Sem Value) : R2 := fun x y H1 Q1 => ∃ H Q, Ex H H1 ∧ WO X f x y H Q ∧ ∀ v H2, up Q v H2 → Q1 v H2
def rWC (X : Cx) (fn : Value) : List V → Hp → VK → Prop := fun xs H1 Q1 => ∃ H Q, Ex H H1 ∧ WC X fn xs H Q ∧ ∀ v H2, up Q v H2 → Q1 v H2

theorem pe_W : PE X e (tWE X e) := ⟨fun pins s σ H1 Q1 I ⟨H, Q, x, w, k⟩ => thn (w H1 x pins s I) fun u s' ⟨v, H2, I2, r, q⟩ => ⟨v, H2, I2, r, k v H2 q⟩⟩
theorem pt_W : PT X e (tWT X e) := ⟨fun pins s σ H1 Q1 I ⟨H, Q, x, w, k⟩ => thn (w H1 x pins s I) fun u s' ⟨H2, I2, q⟩ => ⟨H2, I2, k _ H2 q⟩⟩
theorem pw_W : PW X e (tWW X e) := ⟨fun wh pins s σ H1 Q1 I ⟨H, Q, x, w, k⟩ => thn (w H1 x wh pins s I) fun u s' ⟨H2, I2, q⟩ => ⟨H2, I2, k _ H2 q⟩⟩
theorem pa_W : PA X es (tWA X es) := ⟨fun pos pins s σ H1 Q1 I ⟨H, Q, x, w, k⟩ => thn (w H1 x pos pins s I) fun u s' ⟨v, H2, I2, r, q⟩ => ⟨v, H2, I2, r, k v H2 q⟩⟩
theorem SP.le {X : Cx} {pins : List (Addr × Obj)} {D D1 : Ends} (k : EndsLe D D1) {f : Flow} {s : Shared} (q : SP X pins (upD D) f s) : SP X pins D1 f s := by
  cases f with
  | next => obtain ⟨σ', H', I, q⟩ := q; exact ⟨σ', H', I, k.nx _ _ q⟩
  | brk => obtain ⟨σ', H', I, q⟩ := q; exact ⟨σ', H', I, k.bk _ _ q⟩
  | cont => obtain ⟨σ', H', I, q⟩ := q; exact ⟨σ', H', I, k.ct _ _ q⟩
  | ret u => obtain ⟨v, σ', H', I, r, q⟩ := q; exact ⟨v, σ', H', I, r, k.rt _ _ q⟩
theorem ps_W : PS X st (tWS X st) := ⟨fun pins s σ H1 D1 I ⟨H, D, x, w, k⟩ => thn (w H1 x pins s I) fun u s' q => SP.le k q⟩
theorem pss_W : PSs X sts (tWSs X sts) := ⟨fun pins s σ H1 D1 I ⟨H, D, x, w, k⟩ => thn (w H1 x pins s I) fun u s' q => SP.le k q⟩
theorem op_W : OpR X f (rWO X f) := fun pins s σ H1 x y v u Q1 I rx ry ⟨H, Q, e, w, k⟩ => thn (w H1 e pins s σ v u I rx ry) fun u s' ⟨v, H2, I2, r, q⟩ => ⟨v, H2, I2, r, k v H2 q⟩
theorem call_W : CallR X fn (rWC X fn) := fun pins s σ H1 xs us Q1 I r ⟨H, Q, e, w, k⟩ => thn (w H1 e pins s σ us I r) fun u s' ⟨v, H2, I2, r, q⟩ => ⟨v, H2, I2, r, k v H2 q⟩

theorem WE.of {t : TE} (h : PE X e t) (q : ∀ H1, Ex H H1 → t σ H1 (up Q)) : WE X e σ H Q := fun H1 x pins s I => h.run pins s σ H1 _ I (q H1 x)
theorem WT.of {t : TT} (h : PT X e t) (q : ∀ H1, Ex H H1 → t σ H1 (upB QB)) : WT X e σ H QB := fun H1 x pins s I => h.run pins s σ H1 _ I (q H1 x)
theorem WW.of {t : TT} (h : PW X e t) (q : ∀ H1, Ex H H1 → t σ H1 (upB QB)) : WW X e σ H QB := fun H1 x wh pins s I => h.run wh pins s σ H1 _ I (q H1 x)
theorem WA.of {t : TA} (h : PA X es t) (q : ∀ H1, Ex H H1 → t σ H1 (upA QA)) : WA X es σ H QA := fun H1 x pos pins s I => h.run pos pins s σ H1 _ I (q H1 x)
theorem WS.of {t : TS} (h : PS X st t) (q : ∀ H1, Ex H H1 → t (upD D) σ H1) : WS X st D σ H := fun H1 x pins s I => h.run pins s σ H1 _ I (q H1 x)
theorem WSs.of {t : TS} (h : PSs X sts t) (q : ∀ H1, Ex H H1 → t (upD D) σ H1) : WSs X sts D σ H := fun H1 x pins s I => h.run pins s σ H1 _ I (q H1 x)
theorem WO.of {r : R2} (h : OpR X f r) (q : ∀ H1, Ex H H1 → r x y H1 (up Q)) : WO X f x y H Q := fun H1 e pins s σ v u I rx ry => h pins s σ H1 x y v u _ I rx ry (q H1 e)
theorem WC.of {r : List V → Hp → VK → Prop} (h : CallR X fn r) (q : ∀ H1, Ex H H1 → r xs H1 (up Q)) : WC X fn xs H Q := fun H1 e pins s σ us I rs => h pins s σ H1 xs us _ I rs (q H1 e)

theorem WE.t (w : WE X e σ H Q) (x : Ex H H1) (k : ∀ v H2, up Q v H2 → Q1 v H2) : tWE X e σ H1 Q1 := ⟨H, Q, x, w, k⟩
theorem WT.t (w : WT X e σ H QB) (x : Ex H H1) (k : ∀ v H2, upB QB v H2 → QB1 v H2) : tWT X e σ H1 QB1 := ⟨H, QB, x, w, k⟩
theorem WW.t (w : WW X e σ H QB) (x : Ex H H1) (k : ∀ v H2, upB QB v H2 → QB1 v H2) : tWW X e σ H1 QB1 := ⟨H, QB, x, w, k⟩
theorem WA.t (w : WA X es σ H QA) (x : Ex H H1) (k : ∀ v H2, upA QA v H2 → QA1 v H2) : tWA X es σ H1 QA1 := ⟨H, QA, x, w, k⟩
theorem WO.t (w : WO X f x y H Q) (e : Ex H H1) (k : ∀ v H2, up Q v H2 → Q1 v H2) : rWO X f x y H1 Q1 := ⟨H, Q, e, w, k⟩
theorem WC.t (w : WC X fn xs H Q) (e : Ex H H1) (k : ∀ v H2, up Q v H2 → Q1 v H2) : rWC X fn xs H1 Q1 := ⟨H, Q, e, w, k⟩

theorem up.mono {Q Q' : VK} (k : ∀ v H, Q v H → Q' v H) {v : V} {H : Hp} : up Q v H → up Q' v H := fun ⟨H', x, q⟩ => ⟨H', x, k _ _ q⟩
theorem WE.mono (w : WE X e σ H Q) (k : ∀ v H, Q v H → Q1 v H) : WE X e σ H Q1 := fun H1 x pins s I => thn (w H1 x pins s I) fun u s' ⟨v, H2, I2, r, q⟩ => ⟨v, H2, I2, r, up.mono k q⟩
theorem WE.ex (w : WE X e σ H Q) (x : Ex H H') : WE X e σ H' Q := fun H1 x1 => w H1 (x.trans x1)
/-- what was made on the way is forgotten -/
theorem WE.forget (w : WE X e σ H fun v H1 => ∃ H', Ex H' H1 ∧ Q v H') : WE X e σ H Q := fun H1 x pins s I => thn (w H1 x pins s I) fun u s' ⟨v, H2, I2, r, H3, x3, H4, x4, q⟩ => ⟨v, H2, I2, r, H4, x4.trans x3, q⟩
theorem WSs.le {D1 : Ends} (w : WSs X sts D σ H) (k : EndsLe D (upD D1)) : WSs X sts D1 σ H := fun H1 x pins s I => thn (w H1 x pins s I) fun u s' q => SP.le k q
theorem EndsLe.i {D D1 : Ends} (nx : ∀ σ H, D.nx σ H → D1.nx σ H) (rt : ∀ σ H, D.rt σ H → D1.rt σ H) (bk : ∀ σ H, D.bk σ H → D1.bk σ H) (ct : ∀ σ H, D.ct σ H → D1.ct σ H) : EndsLe D (upD D1) :=
  ⟨fun _ _ ⟨H, x, q⟩ => ⟨H, x, nx _ _ q⟩, fun _ _ ⟨H, x, q⟩ => ⟨H, x, rt _ _ q⟩, fun _ _ ⟨H, x, q⟩ => ⟨H, x, bk _ _ q⟩, fun _ _ ⟨H, x, q⟩ => ⟨H, x, ct _ _ q⟩⟩
theorem EndsLe.rfl {D : Ends} : EndsLe D (upD D) := .i (fun _ _ q => q) (fun _ _ q => q) (fun _ _ q => q) fun _ _ q => q

/-! ## pure: a value, nothing changed -/
def EV (X : Cx) (e : Expr) (σ : St) (H : Hp) (v : V) : Prop := ∀ H1, Ex H H1 → ∀ Q : VK, Q v H1 → WE X e σ H1 Q
def ET (X : Cx) (e : Expr) (σ : St) (H : Hp) (v : Bool) : Prop := ∀ H1, Ex H H1 → ∀ Q : Bool → Hp → Prop, Q v H1 → WT X e σ H1 Q
def EW (X : Cx) (e : Expr) (σ : St) (H : Hp) (v : Bool) : Prop := ∀ H1, Ex H H1 → ∀ Q : Bool → Hp → Prop, Q v H1 → WW X e σ H1 Q
def EA (X : Cx) (es : List Expr) (σ : St) (H : Hp) (vs : List V) : Prop := ∀ H1, Ex H H1 → ∀ Q : List V → Hp → Prop, Q vs H1 → WA X es σ H1 Q
def EO (X : Cx) (f : Value → Value → Sem Value) (x y : V) (H : Hp) (z : V) : Prop := ∀ H1, Ex H H1 → ∀ Q : VK, Q z H1 → WO X f x y H1 Q
def EC (X : Cx) (fn : Value) (xs : List V) (H : Hp) (z : V) : Prop := ∀ H1, Ex H H1 → ∀ Q : VK, Q z H1 → WC X fn xs H1 Q
/-- a new object -/
def EN (X : Cx) (e : Expr) (σ : St) (H : Hp) (o : HO) : Prop := ∀ H1, Ex H H1 → ∀ Q : VK, (∀ p, H1 p = none → Q (.ref p) (upd H1 p o)) → WE X e σ H1 Q
def CN (X : Cx) (fn : Value) (xs : List V) (H : Hp) (o : HO) : Prop := ∀ H1, Ex H H1 → ∀ Q : VK, (∀ p, H1 p = none → Q (.ref p) (upd H1 p o)) → WC X fn xs H1 Q
theorem EV.we (h : EV X e σ H v) (q : Q v H) : WE X e σ H Q := h H (Ex.refl H) Q q
theorem ET.wt {v : Bool} (h : ET X e σ H v) (q : QB v H) : WT X e σ H QB := h H (Ex.refl H) QB q
theorem EW.ww {v : Bool} (h : EW X e σ H v) (q : QB v H) : WW X e σ H QB := h H (Ex.refl H) QB q
theorem EA.wa {vs : List V} (h : EA X es σ H vs) (q : QA vs H) : WA X es σ H QA := h H (Ex.refl H) QA q
theorem EO.wo (h : EO X f x y H z) (q : Q z H) : WO X f x y H Q := h H (Ex.refl H) Q q
theorem EC.wc (h : EC X fn xs H z) (q : Q z H) : WC X fn xs H Q := h H (Ex.refl H) Q q
theorem EN.we {o : HO} (h : EN X e σ H o) (q : ∀ p, H p = none → Q (.ref p) (upd H p o)) : WE X e σ H Q := h H (Ex.refl H) Q q
theorem CN.wc {o : HO} (h : CN X fn xs H o) (q : ∀ p, H p = none → Q (.ref p) (upd H p o)) : WC X fn xs H Q := h H (Ex.refl H) Q q
theorem EV.ex (h : EV X e σ H v) (x : Ex H H') : EV X e σ H' v := fun H1 x1 => h H1 (x.trans x1)
theorem ET.ex {v : Bool} (h : ET X e σ H v) (x : Ex H H') : ET X e σ H' v := fun H1 x1 => h H1 (x.trans x1)
theorem EN.ex {o : HO} (h : EN X e σ H o) (x : Ex H H') : EN X e σ H' o := fun H1 x1 => h H1 (x.trans x1)
theorem EA.ex {vs : List V} (h : EA X es σ H vs) (x : Ex H H') : EA X es σ H' vs := fun H1 x1 => h H1 (x.trans x1)
theorem EO.ex (h : EO X f x y H z) (x0 : Ex H H') : EO X f x y H' z := fun H1 x1 => h H1 (x0.trans x1)
theorem EV.is {w : V} (h : EV X e σ H v) (q : v = w) : EV X e σ H w := q ▸ h
theorem ET.is {v w : Bool} (h : ET X e σ H v) (q : v = w) : ET X e σ H w := q ▸ h
theorem EO.is {w : V} (h : EO X f x y H v) (q : v = w) : EO X f x y H w := q ▸ h
end
section
variable {X : Cx} {e a b c : Expr} {es rest : List Expr} {st : Stmt} {sts : List Stmt} {σ : St} {H H1 H' : Hp} {Q Q1 : VK} {QB QB1 : Bool → Hp → Prop} {QA QA1 : List V → Hp → Prop} {D : Ends} {x y z v w : V} {pos p pos' : Pos} {f : Value → Value → Sem Value} {fn : Value} {xs vs : List V} {k l : Bool}

/-! ## names, constants -/
theorem ev_var {i : Nat} {n : Str} (hN : X.N[i]? = some n) (hv : Vis X.env.scope n) (hs : σ[i]? = some (some v)) (hd : (n == ("__debug__" : Str)) = false := by decide) (hcd : (n == ("__classdict__" : Str)) = false := by decide) : EV X (.Name n pos) σ H v :=
  fun H1 x Q q => .of (pe_var hN hv hd hcd) fun H2 x2 => ⟨v, hs, H1, x2, q⟩
theorem ev_int {i : Int} {j} : EV X (.Constant (.int i) j pos) σ H (.int i) := fun H1 x Q q => .of pe_int fun H2 x2 => ⟨H1, x2, q⟩
theorem ev_bl {i : Bool} {j} : EV X (.Constant (.bool i) j pos) σ H (.bl i) := fun H1 x Q q => .of pe_bl fun H2 x2 => ⟨H1, x2, q⟩
theorem ev_non {j} : EV X (.Constant .none j pos) σ H .non := fun H1 x Q q => .of pe_non fun H2 x2 => ⟨H1, x2, q⟩
theorem ev_str {i : Str} {j} : EV X (.Constant (.str i) j pos) σ H (.str i) := fun H1 x Q q => .of pe_str fun H2 x2 => ⟨H1, x2, q⟩
theorem ev_glob {n : Str} {u : Value} (hm : X.mg n = some u) (r : RelV v u) (hg : Gl X n := by rfl) (hd : (n == ("__debug__" : Str)) = false := by decide) : EV X (.Name n pos) σ H v := fun H1 x Q q => .of (pe_glob hg hm r hd) fun H2 x2 => ⟨H1, x2, q⟩
theorem ev_bltn {n : Str} {u : Value} (hm : X.mg n = none) (hv : bootBuiltins n = some u) (r : RelV v u) (hg : Gl X n := by rfl) (hn : n ≠ "__name__" := by decide) (hd : (n == ("__debug__" : Str)) = false := by decide) : EV X (.Name n pos) σ H v := fun H1 x Q q => .of (pe_bltn hg hm hv r hn hd) fun H2 x2 => ⟨H1, x2, q⟩

/-! ## operators -/
theorem we_bin {op : Operator} (h : WE X a σ H fun x H1 => WE X b σ H1 fun y H2 => WO X (binaryOp op) x y H2 Q) : WE X (.BinOp a op b pos) σ H Q :=
  .of (pe_op op_W pe_W pe_W) fun H1 x => h.t x fun v H2 ⟨H3, x3, w⟩ => w.t x3 fun u H4 ⟨H5, x5, o⟩ => o.t x5 fun _ _ q => q
theorem ev_bin {op : Operator} (ha : EV X a σ H x) (hb : EV X b σ H y) (ho : EO X (binaryOp op) x y H z) : EV X (.BinOp a op b pos) σ H z := fun H1 e Q q =>
  we_bin ((ha.ex e).we ((hb.ex e).we ((ho.ex e).wo q)))
def UN (X : Cx) (f : Value → Sem Value) (x : V) (H : Hp) (z : V) : Prop := ∀ H1, Ex H H1 → ∀ pins s σ v, Inv X pins σ H1 s → RelV x v → ∀ Q : VK, Q z H1 → wpAny (model X.prog X.w) X.A (f v) (EP X pins σ Q) X.xe s
theorem we_un {op : UnaryOp} (h : WE X a σ H fun x H1 => ∃ z, UN X (unaryOp op) x H1 z ∧ Q z H1) : WE X (.UnaryOp op a pos) σ H Q :=
  .of (pe_un (r := fun x H1 Q1 => ∃ H z, Ex H H1 ∧ UN X (unaryOp op) x H z ∧ Q1 z H1) (fun pins s σ H1 x v Q I rx ⟨H, z, e, h, q⟩ => h H1 e pins s σ v I rx Q q) pe_W) fun H1 x => h.t x fun v H2 ⟨H3, x3, z, h3, q⟩ => ⟨H3, z, x3, h3, H3, x3, q⟩
theorem un_neg {i : Int} : UN X (unaryOp .USub) (.int i) H (.int (-i)) := fun H1 e pins s σ v I rx Q q => L2.un_neg pins s σ H1 _ v Q I rx ⟨i, rfl, q⟩
theorem ev_un {op : UnaryOp} (ha : EV X a σ H x) (ho : UN X (unaryOp op) x H z) : EV X (.UnaryOp op a pos) σ H z := fun H1 e Q q =>
  we_un ((ha.ex e).we ⟨z, fun H2 e2 => ho H2 (e.trans e2), q⟩)
theorem eo_of {r : R2} (h : OpR X f r) (q : ∀ H1, Ex H H1 → ∀ Q : VK, Q z H1 → r x y H1 Q) : EO X f x y H z := fun H1 e Q k => .of h fun H2 e2 => q H2 (e.trans e2) _ ⟨H1, e2, k⟩
section
variable {i j : Int}
theorem eo_add : EO X (binaryOp .Add) (.int i) (.int j) H (.int (i + j)) := eo_of op_add fun _ _ _ q => ⟨i, j, rfl, rfl, q⟩
theorem eo_sub : EO X (binaryOp .Sub) (.int i) (.int j) H (.int (i - j)) := eo_of op_sub fun _ _ _ q => ⟨i, j, rfl, rfl, q⟩
theorem eo_mul (h : CMul i j) : EO X (binaryOp .Mult) (.int i) (.int j) H (.int (i * j)) := eo_of op_mul fun _ _ _ q => ⟨i, j, rfl, rfl, h, q⟩
theorem eo_mulX (h : CMulX i j) : EO X (binaryOp .Mult) (.int i) (.int j) H (.int (i * j)) := eo_of op_mulX fun _ _ _ q => ⟨i, j, rfl, rfl, h, q⟩
theorem eo_mod (h : 0 < j) : EO X (binaryOp .Mod) (.int i) (.int j) H (.int (i % j)) := eo_of op_mod fun _ _ _ q => ⟨i, j, rfl, rfl, h, q⟩
theorem eo_fdiv (h : CDivW i j) : EO X (binaryOp .FloorDiv) (.int i) (.int j) H (.int (i / j)) := eo_of op_fdivW fun _ _ _ q => ⟨i, j, rfl, rfl, h, q⟩
theorem eo_pow (h : CPow i j) : EO X (binaryOp .Pow) (.int i) (.int j) H (.int (i ^ j.toNat)) := eo_of op_pow fun _ _ _ q => ⟨i, j, rfl, rfl, h, q⟩
theorem eo_shl (h : CShl i j) : EO X (binaryOp .LShift) (.int i) (.int j) H (.int (i * 2 ^ j.toNat)) := eo_of op_shlW fun _ _ _ q => ⟨i, j, rfl, rfl, h, q⟩
theorem eo_shr (h : 0 ≤ j) : EO X (binaryOp .RShift) (.int i) (.int j) H (.int (i / 2 ^ j.toNat)) := eo_of op_shr fun _ _ _ q => ⟨i, j, rfl, rfl, h, q⟩
theorem eo_and : EO X (binaryOp .BitAnd) (.int i) (.int j) H (.int (Builtin.bitAnd i j)) := eo_of op_and fun _ _ _ q => ⟨i, j, rfl, rfl, q⟩
theorem eo_lt : EO X (compareOp .Lt) (.int i) (.int j) H (.bl (decide (i < j))) := eo_of op_lt fun _ _ _ q => ⟨i, j, rfl, rfl, q⟩
theorem eo_le : EO X (compareOp .LtE) (.int i) (.int j) H (.bl (decide (i ≤ j))) := eo_of op_le fun _ _ _ q => ⟨i, j, rfl, rfl, q⟩
theorem eo_gt : EO X (compareOp .Gt) (.int i) (.int j) H (.bl (decide (j < i))) := eo_of op_gt fun _ _ _ q => ⟨i, j, rfl, rfl, q⟩
theorem eo_ge : EO X (compareOp .GtE) (.int i) (.int j) H (.bl (decide (j ≤ i))) := eo_of op_ge fun _ _ _ q => ⟨i, j, rfl, rfl, q⟩
theorem eo_eqI : EO X (compareOp .Eq) (.int i) (.int j) H (.bl (decide (i = j))) := (eo_of (z := .bl (decide (V.int i = V.int j))) op_eq fun _ _ _ q => ⟨rfl, q⟩).is (by congr 1; rw [dec_int, Bool.eq_iff_iff]; simp)
theorem eo_neI : EO X (compareOp .NotEq) (.int i) (.int j) H (.bl (!decide (i = j))) := (eo_of (z := .bl (!decide (V.int i = V.int j))) op_ne fun _ _ _ q => ⟨rfl, q⟩).is (by congr 2; rw [dec_int, Bool.eq_iff_iff]; simp)
end
theorem eo_eqS {i j : Str} : EO X (compareOp .Eq) (.str i) (.str j) H (.bl (decide (i = j))) := (eo_of (z := .bl (decide (V.str i = V.str j))) op_eq fun _ _ _ q => ⟨rfl, q⟩).is (by congr 1; rw [dec_str, Bool.eq_iff_iff]; simp)
theorem eo_neS {i j : Str} : EO X (compareOp .NotEq) (.str i) (.str j) H (.bl (!decide (i = j))) := (eo_of (z := .bl (!decide (V.str i = V.str j))) op_ne fun _ _ _ q => ⟨rfl, q⟩).is (by congr 2; rw [dec_str, Bool.eq_iff_iff]; simp)
theorem eo_eq (h : scal x y = true) : EO X (compareOp .Eq) x y H (.bl (decide (x = y))) := eo_of op_eq fun _ _ _ q => ⟨h, q⟩
theorem eo_ne (h : scal x y = true) : EO X (compareOp .NotEq) x y H (.bl (!decide (x = y))) := eo_of op_ne fun _ _ _ q => ⟨h, q⟩
theorem eo_isN : EO X (compareOp .Is) x .non H (.bl (decide (x = .non))) := eo_of op_isN fun _ _ _ q => ⟨rfl, q⟩
theorem eo_notN : EO X (compareOp .IsNot) x .non H (.bl (!decide (x = .non))) := eo_of op_notN fun _ _ _ q => ⟨rfl, q⟩
theorem eo_inL {q : Addr} (h : SqL X.K H q xs) (hx : flatV x = true) (ha : xs.all flatV = true) : EO X (compareOp .In) x (.ref q) H (.bl (inV x xs)) := eo_of op_in_seq fun _ e _ k => ⟨q, xs, rfl, .inl (e.sqL h), hx, ha, k⟩
theorem eo_inT {q : Addr} (h : SqT X.K H q xs) (hx : flatV x = true) (ha : xs.all flatV = true) : EO X (compareOp .In) x (.ref q) H (.bl (inV x xs)) := eo_of op_in_seq fun _ e _ k => ⟨q, xs, rfl, .inr (e.sqT h), hx, ha, k⟩
theorem eo_ninL {q : Addr} (h : SqL X.K H q xs) (hx : flatV x = true) (ha : xs.all flatV = true) : EO X (compareOp .NotIn) x (.ref q) H (.bl (!inV x xs)) := eo_of op_notIn_seq fun _ e _ k => ⟨q, xs, rfl, .inl (e.sqL h), hx, ha, k⟩
theorem eo_ninT {q : Addr} (h : SqT X.K H q xs) (hx : flatV x = true) (ha : xs.all flatV = true) : EO X (compareOp .NotIn) x (.ref q) H (.bl (!inV x xs)) := eo_of op_notIn_seq fun _ e _ k => ⟨q, xs, rfl, .inr (e.sqT h), hx, ha, k⟩

/-! ## comparisons -/
theorem we_cmp {op : CmpOp} (h : WE X a σ H fun x H1 => WE X b σ H1 fun y H2 => WO X (compareOp op) x y H2 Q) (hm : behindInMarks op b = false := by first | exact nomark _ | with_unfolding_all rfl) : WE X (.Compare a [op] [b] pos) σ H Q :=
  .of (pe_cmpR op_W pe_W pe_W hm) fun H1 x => h.t x fun v H2 ⟨H3, x3, w⟩ => w.t x3 fun u H4 ⟨H5, x5, o⟩ => o.t x5 fun _ _ q => q
theorem ev_cmp {op : CmpOp} (ha : EV X a σ H x) (hb : EV X b σ H y) (ho : EO X (compareOp op) x y H z) (hm : behindInMarks op b = false := by first | exact nomark _ | with_unfolding_all rfl) : EV X (.Compare a [op] [b] pos) σ H z := fun H1 e Q q =>
  we_cmp ((ha.ex e).we ((hb.ex e).we ((ho.ex e).wo q))) hm
theorem wt_cmp {op : CmpOp} (h : WE X a σ H fun x H1 => WE X b σ H1 fun y H2 => WO X (compareOp op) x y H2 fun z H3 => ∃ k, z = .bl k ∧ QB k H3) (hm : behindInMarks op b = false := by first | exact nomark _ | with_unfolding_all rfl) : WT X (.Compare a [op] [b] pos) σ H QB :=
  .of (pt_cmpR op_W pe_W pe_W hm) fun H1 x => h.t x fun v H2 ⟨H3, x3, w⟩ => w.t x3 fun u H4 ⟨H5, x5, o⟩ => o.t x5 fun _ _ ⟨H6, x6, k, e, q⟩ => ⟨k, e, H6, x6, q⟩
theorem et_cmp {op : CmpOp} (ha : EV X a σ H x) (hb : EV X b σ H y) (ho : EO X (compareOp op) x y H (.bl k)) (hm : behindInMarks op b = false := by first | exact nomark _ | with_unfolding_all rfl) : ET X (.Compare a [op] [b] pos) σ H k := fun H1 e Q q =>
  wt_cmp ((ha.ex e).we ((hb.ex e).we ((ho.ex e).wo ⟨k, rfl, q⟩))) hm
/-- a op b op' c -/
theorem ev_chain {op op' : CmpOp} (ha : EV X a σ H x) (hb : EV X b σ H y) (ho : EO X (compareOp op) x y H (.bl k)) (hc : EV X c σ H z) (ho' : EO X (compareOp op') y z H (.bl l)) (hm : lastMarks [op, op'] [b, c] = false := by with_unfolding_all rfl) : EV X (.Compare a [op, op'] [b, c] pos) σ H (.bl (k && l)) := fun H1 e Q q =>
  .of (pe_chain op_W op_W pe_W pe_W pe_W hm) fun H2 e2 => ((ha.ex e).we (Q := fun v H => v = x ∧ H = H1) ⟨rfl, rfl⟩).t e2 fun v H3 ⟨H3', x3, ev, eH⟩ => by
    subst ev; subst eH
    refine ((hb.ex e).we (Q := fun v H => v = y ∧ H = H3') ⟨rfl, rfl⟩).t x3 fun u H4 ⟨H4', x4, eu, eH⟩ => ?_
    subst eu; subst eH
    refine ((ho.ex e).wo (Q := fun v H => v = .bl k ∧ H = H4') ⟨rfl, rfl⟩).t x4 fun r H5 ⟨H5', x5, er, eH⟩ => ?_
    subst er; subst eH
    refine ⟨k, rfl, ?_⟩
    cases k with
    | false => exact iteF ⟨_, x5, q⟩
    | true =>
      refine iteT (((hc.ex e).we (Q := fun v H => v = z ∧ H = H5') ⟨rfl, rfl⟩).t x5 fun s H6 ⟨H6', x6, es, eH⟩ => ?_)
      subst es; subst eH
      exact ((ho'.ex e).wo q).t x6 fun _ _ q => q
theorem et_chain {op op' : CmpOp} (ha : EV X a σ H x) (hb : EV X b σ H y) (ho : EO X (compareOp op) x y H (.bl k)) (hc : EV X c σ H z) (ho' : EO X (compareOp op') y z H (.bl l)) (hm : lastMarks [op, op'] [b, c] = false := by with_unfolding_all rfl) : ET X (.Compare a [op, op'] [b, c] pos) σ H (k && l) := fun H1 e Q q =>
  .of (pt_chain op_W op_W pe_W pe_W pe_W hm) fun H2 e2 => ((ha.ex e).we (Q := fun v H => v = x ∧ H = H1) ⟨rfl, rfl⟩).t e2 fun v H3 ⟨H3', x3, ev, eH⟩ => by
    subst ev; subst eH
    refine ((hb.ex e).we (Q := fun v H => v = y ∧ H = H3') ⟨rfl, rfl⟩).t x3 fun u H4 ⟨H4', x4, eu, eH⟩ => ?_
    subst eu; subst eH
    refine ((ho.ex e).wo (Q := fun v H => v = .bl k ∧ H = H4') ⟨rfl, rfl⟩).t x4 fun r H5 ⟨H5', x5, er, eH⟩ => ?_
    subst er; subst eH
    refine ⟨k, rfl, ?_⟩
    cases k with
    | false => exact iteF ⟨false, rfl, _, x5, q⟩
    | true =>
      refine iteT (((hc.ex e).we (Q := fun v H => v = z ∧ H = H5') ⟨rfl, rfl⟩).t x5 fun s H6 ⟨H6', x6, es, eH⟩ => ?_)
      subst es; subst eH
      exact ((ho'.ex e).wo (Q := fun v H => v = .bl l ∧ Q (true && l) H) ⟨rfl, q⟩).t x6 fun _ _ ⟨H7, x7, ez, q⟩ => ⟨l, ez, H7, x7, q⟩

/-! ## and, or, not, tests -/
theorem wt_val (h : WE X e σ H fun x H1 => ∃ k, x = .bl k ∧ QB k H1) (he : ∀ whole, isTrue e X.env whole = (do let v ← whole; standAt e.pos; holding [v] (truthy v)) := by intro _; rfl) : WT X e σ H QB :=
  .of (pt_val pe_W he) fun H1 x => h.t x fun v H2 ⟨H3, x3, k, e, q⟩ => ⟨k, e, H3, x3, q⟩
theorem et_val (h : EV X e σ H (.bl k)) (he : ∀ whole, isTrue e X.env whole = (do let v ← whole; standAt e.pos; holding [v] (truthy v)) := by intro _; rfl) : ET X e σ H k := fun H1 x Q q => wt_val ((h.ex x).we ⟨k, rfl, q⟩) he
/-- a value's truth, known from below -/
def TruE (K : PySem.W.Frag) (x : V) (H : Hp) (k : Bool) : Prop := ∀ H1, Ex H H1 → TruV K x H1 k
theorem et_truth (h : EV X e σ H x) (ht : TruE X.K x H k) (he : ∀ whole, isTrue e X.env whole = (do let v ← whole; standAt e.pos; holding [v] (truthy v)) := by intro _; rfl) : ET X e σ H k := fun H1 x Q q =>
  .of (pt_truth pe_W he) fun H2 x2 => ((h.ex x).we (Q := fun v H => v = _ ∧ H = H1) ⟨rfl, rfl⟩).t x2 fun v H3 ⟨H3', x3, ev, eH⟩ => by
    subst ev; subst eH
    exact ⟨k, ht _ (x.trans x3), _, x3, q⟩
theorem ww_and1 (h : WT X a σ H QB) : WW X (.BoolOp .And [a] pos) σ H QB := .of (pw_and1 pt_W) fun H1 x => h.t x fun _ _ q => q
theorem ww_or1 (h : WT X a σ H QB) : WW X (.BoolOp .Or [a] pos) σ H QB := .of (pw_or1 pt_W) fun H1 x => h.t x fun _ _ q => q
theorem ww_and (h : WT X a σ H fun k H1 => if k = true then WW X (.BoolOp .And (b :: rest) pos) σ H1 QB else QB false H1) : WW X (.BoolOp .And (a :: b :: rest) pos) σ H QB :=
  .of (pw_and pt_W pw_W) fun H1 x => h.t x fun k H2 ⟨H3, x3, q⟩ => by
    cases k with
    | true => exact iteT (WW.t (by simpa using q) x3 fun _ _ q => q)
    | false => exact iteF ⟨H3, x3, by simpa using q⟩
theorem ww_or (h : WT X a σ H fun k H1 => if k = true then QB true H1 else WW X (.BoolOp .Or (b :: rest) pos) σ H1 QB) : WW X (.BoolOp .Or (a :: b :: rest) pos) σ H QB :=
  .of (pw_or pt_W pw_W) fun H1 x => h.t x fun k H2 ⟨H3, x3, q⟩ => by
    cases k with
    | true => exact iteT ⟨H3, x3, by simpa using q⟩
    | false => exact iteF (WW.t (by simpa using q) x3 fun _ _ q => q)
theorem wt_ww (h : WW X e σ H QB) : WT X e σ H QB := fun H1 x pins s I => h H1 x _ pins s I
theorem et_ew (h : EW X e σ H k) : ET X e σ H k := fun H1 x Q q => wt_ww (h H1 x Q q)
theorem ew_and1 (h : ET X a σ H k) : EW X (.BoolOp .And [a] pos) σ H k := fun H1 x Q q => ww_and1 ((h.ex x).wt q)
theorem ew_or1 (h : ET X a σ H k) : EW X (.BoolOp .Or [a] pos) σ H k := fun H1 x Q q => ww_or1 ((h.ex x).wt q)
theorem ew_and (ha : ET X a σ H k) (hb : k = true → EW X (.BoolOp .And (b :: rest) pos) σ H l) : EW X (.BoolOp .And (a :: b :: rest) pos) σ H (k && l) := fun H1 x Q q => ww_and ((ha.ex x).wt (by
  cases k with
  | true => exact iteT ((hb rfl) H1 x Q q)
  | false => exact iteF q))
theorem ew_or (ha : ET X a σ H k) (hb : k = false → EW X (.BoolOp .Or (b :: rest) pos) σ H l) : EW X (.BoolOp .Or (a :: b :: rest) pos) σ H (k || l) := fun H1 x Q q => ww_or ((ha.ex x).wt (by
  cases k with
  | true => exact iteT q
  | false => exact iteF ((hb rfl) H1 x Q q)))
theorem et_not (h : ET X a σ H k) : ET X (.UnaryOp .Not a pos) σ H (!k) := fun H1 x Q q =>
  .of (pt_not pt_W) fun H2 x2 => ((h.ex x).wt (QB := fun v H => Q (!v) H) q).t x2 fun _ _ q => q
theorem wt_not (h : WT X a σ H fun k H1 => QB (!k) H1) : WT X (.UnaryOp .Not a pos) σ H QB := .of (pt_not pt_W) fun H2 x2 => h.t x2 fun _ _ q => q
/-- as values (bools) -/
theorem we_one {op} (h : WE X a σ H Q) : WE X (.BoolOp op [a] pos) σ H Q := .of (pe_one pe_W) fun H1 x => h.t x fun _ _ q => q
theorem we_andV (h : WE X a σ H fun x H1 => ∃ k, x = .bl k ∧ if k = true then WE X (.BoolOp .And (b :: rest) pos) σ H1 Q else Q (.bl false) H1) : WE X (.BoolOp .And (a :: b :: rest) pos) σ H Q :=
  .of (pe_and pe_W pe_W) fun H1 x => h.t x fun v H2 ⟨H3, x3, k, e, q⟩ => ⟨k, e, by
    cases k with
    | true => exact iteT (WE.t (by simpa using q) x3 fun _ _ q => q)
    | false => exact iteF ⟨H3, x3, by simpa using q⟩⟩
theorem we_orV (h : WE X a σ H fun x H1 => ∃ k, x = .bl k ∧ if k = true then Q (.bl true) H1 else WE X (.BoolOp .Or (b :: rest) pos) σ H1 Q) : WE X (.BoolOp .Or (a :: b :: rest) pos) σ H Q :=
  .of (pe_or pe_W pe_W) fun H1 x => h.t x fun v H2 ⟨H3, x3, k, e, q⟩ => ⟨k, e, by
    cases k with
    | true => exact iteT ⟨H3, x3, by simpa using q⟩
    | false => exact iteF (WE.t (by simpa using q) x3 fun _ _ q => q)⟩
theorem ev_one {op} (h : EV X a σ H v) : EV X (.BoolOp op [a] pos) σ H v := fun H1 x Q q => we_one ((h.ex x).we q)
theorem ev_andV (ha : EV X a σ H (.bl k)) (hb : k = true → EV X (.BoolOp .And (b :: rest) pos) σ H (.bl l)) : EV X (.BoolOp .And (a :: b :: rest) pos) σ H (.bl (k && l)) := fun H1 x Q q => we_andV ((ha.ex x).we ⟨k, rfl, by
  cases k with
  | true => exact iteT ((hb rfl) H1 x Q q)
  | false => exact iteF q⟩)
theorem ev_orV (ha : EV X a σ H (.bl k)) (hb : k = false → EV X (.BoolOp .Or (b :: rest) pos) σ H (.bl l)) : EV X (.BoolOp .Or (a :: b :: rest) pos) σ H (.bl (k || l)) := fun H1 x Q q => we_orV ((ha.ex x).we ⟨k, rfl, by
  cases k with
  | true => exact iteT q
  | false => exact iteF ((hb rfl) H1 x Q q)⟩)
theorem ev_notV (ha : EV X a σ H (.bl k)) : EV X (.UnaryOp .Not a pos) σ H (.bl (!k)) := fun H1 x Q q =>
  .of (pe_not pe_W) fun H2 x2 => ((ha.ex x).we (Q := fun v H => v = .bl k ∧ Q (.bl (!k)) H) ⟨rfl, q⟩).t x2 fun v H3 ⟨H4, x4, e, q⟩ => ⟨k, e, H4, x4, q⟩
theorem we_if (h : WT X c σ H fun k H1 => if k = true then WE X a σ H1 Q else WE X b σ H1 Q) : WE X (.IfExp c a b pos) σ H Q :=
  .of (pe_ifExp pt_W pe_W pe_W) fun H1 x => h.t x fun k H2 ⟨H3, x3, q⟩ => by
    cases k with
    | true => exact iteT (WE.t (by simpa using q) x3 fun _ _ q => q)
    | false => exact iteF (WE.t (by simpa using q) x3 fun _ _ q => q)
theorem ev_if (hc : ET X c σ H k) (ha : k = true → EV X a σ H v) (hb : k = false → EV X b σ H v) : EV X (.IfExp c a b pos) σ H v := fun H1 x Q q => we_if ((hc.ex x).wt (by
  cases k with
  | true => exact iteT ((ha rfl) H1 x Q q)
  | false => exact iteF ((hb rfl) H1 x Q q)))
theorem ev_if2 (hc : ET X c σ H k) (ha : k = true → EV X a σ H v) (hb : k = false → EV X b σ H w) : EV X (.IfExp c a b pos) σ H (if k = true then v else w) := ev_if hc (fun h => by subst h; exact ha rfl) (fun h => by subst h; exact hb rfl)

/-! ## lists of arguments, displays -/
theorem wa_nil (q : QA [] H) : WA X [] σ H QA := .of pa_nil fun H1 x => ⟨H, x, q⟩
theorem wa_cons (h : WE X e σ H fun x H1 => WA X es σ H1 fun xs H2 => QA (x :: xs) H2) (hs : starEach (e :: es) X.env = (false, eval e X.env) :: starEach es X.env := by rfl) : WA X (e :: es) σ H QA :=
  .of (pa_cons pe_W pa_W hs) fun H1 x => h.t x fun v H2 ⟨H3, x3, w⟩ => w.t x3 fun _ _ q => q
theorem ea_nil : EA X [] σ H [] := fun H1 x Q q => wa_nil q
theorem ea_cons (h : EV X e σ H v) (hr : EA X es σ H vs) (hs : starEach (e :: es) X.env = (false, eval e X.env) :: starEach es X.env := by rfl) : EA X (e :: es) σ H (v :: vs) := fun H1 x Q q => wa_cons ((h.ex x).we ((hr.ex x).wa q)) hs
theorem we_tup {x1} (h : WA X es σ H fun xs H1 => xs.length ≤ sizeLine ∧ ∀ p, H1 p = none → Q (.ref p) (upd H1 p (.tup xs))) : WE X (.Tuple es x1 pos) σ H Q :=
  .of (pe_tup pa_W) fun H1 x => h.t x fun xs H2 ⟨H3, x3, hz, k⟩ => ⟨hz, fun p hp => ⟨_, x3.set p _, k p (x3.free hp)⟩⟩
theorem we_lst (h : WA X es σ H fun xs H1 => xs.length ≤ sizeLine ∧ ∀ p, H1 p = none → Q (.ref p) (upd H1 p (.lst xs))) : WE X (.List es pos) σ H Q :=
  .of (pe_lst pa_W) fun H1 x => h.t x fun xs H2 ⟨H3, x3, hz, k⟩ => ⟨hz, fun p hp => ⟨_, x3.set p _, k p (x3.free hp)⟩⟩
theorem small {n : Nat} (h : n ≤ 100000) : n ≤ sizeLine := Nat.le_trans h (by decide)
theorem en_tup {x1} (h : EA X es σ H vs) (hz : vs.length ≤ 100000) : EN X (.Tuple es x1 pos) σ H (.tup vs) := fun H1 x Q q => we_tup ((h.ex x).wa ⟨small hz, q⟩)
theorem en_lst (h : EA X es σ H vs) (hz : vs.length ≤ 100000) : EN X (.List es pos) σ H (.lst vs) := fun H1 x Q q => we_lst ((h.ex x).wa ⟨small hz, q⟩)
theorem en_dict0 : EN X (.Dict [] [] pos) σ H (.dK []) := fun H1 x Q q => .of pe_dnewK fun H2 x2 p hp => ⟨_, x2.set p _, q p (x2.free hp)⟩
/-- a new object as an operand, dropped behind -/
theorem ev_binN {op : Operator} {o : HO} (ha : EV X a σ H x) (hb : EN X b σ H o) (ho : ∀ p H1, Ex H H1 → H1 p = some o → EO X (binaryOp op) x (.ref p) H1 z) : EV X (.BinOp a op b pos) σ H z := fun H1 e Q q =>
  (we_bin ((ha.ex e).we ((hb.ex e).we fun p hp => (ho p _ (e.new hp) upd_same).wo ⟨H1, Ex.put hp, q⟩))).forget
theorem ev_cmpN {op : CmpOp} {o : HO} (ha : EV X a σ H x) (hb : EN X b σ H o) (ho : ∀ p H1, Ex H H1 → H1 p = some o → EO X (compareOp op) x (.ref p) H1 z) (hm : behindInMarks op b = false := by first | exact nomark _ | with_unfolding_all rfl) : EV X (.Compare a [op] [b] pos) σ H z := fun H1 e Q q =>
  (we_cmp ((ha.ex e).we ((hb.ex e).we fun p hp => (ho p _ (e.new hp) upd_same).wo ⟨H1, Ex.put hp, q⟩)) hm).forget

/-! ## subscripts -/
theorem we_ix {r : R2} (hr : IxR X r) (h : WE X a σ H fun x H1 => WE X b σ H1 fun y H2 => ∀ H3, Ex H2 H3 → r x y H3 (up Q)) (hs : PlainIx b := by intro _ _; rfl) : WE X (.Subscript a b pos) σ H Q :=
  .of (pe_ix hr pe_W pe_W hs) fun H1 x => h.t x fun v H2 ⟨H3, x3, w⟩ => w.t x3 fun u H4 ⟨H5, x5, o⟩ => o H4 x5
theorem ev_ixL {p : Addr} {i : Int} (ha : EV X a σ H (.ref p)) (hb : EV X b σ H (.int i)) (h : SqL X.K H p xs) (hi : atI xs i = some v) (hs : PlainIx b := by intro _ _; rfl) : EV X (.Subscript a b pos) σ H v := fun H1 e Q q =>
  we_ix ix_list ((ha.ex e).we ((hb.ex e).we fun H3 e3 => ⟨p, xs, i, v, rfl, rfl, (e.trans e3).sqL h, hi, H1, e3, q⟩)) hs
theorem ev_ixT {p : Addr} {i : Int} (ha : EV X a σ H (.ref p)) (hb : EV X b σ H (.int i)) (h : SqT X.K H p xs) (hi : atI xs i = some v) (hs : PlainIx b := by intro _ _; rfl) : EV X (.Subscript a b pos) σ H v := fun H1 e Q q =>
  we_ix ix_tup ((ha.ex e).we ((hb.ex e).we fun H3 e3 => ⟨p, xs, i, v, rfl, rfl, (e.trans e3).sqT h, hi, H1, e3, q⟩)) hs
theorem ev_ixS {z : Str} {i : Int} {n : Nat} (ha : EV X a σ H (.str z)) (hb : EV X b σ H (.int i)) (hz : z.length ≤ sizeLine) (hi : atI z.cps.toList i = some n) (hs : PlainIx b := by intro _ _; rfl) : EV X (.Subscript a b pos) σ H (.str ⟨#[n]⟩) := fun H1 e Q q =>
  we_ix ix_str ((ha.ex e).we ((hb.ex e).we fun H3 e3 => ⟨z, i, n, rfl, rfl, hz, hi, H1, e3, q⟩)) hs
/-- an item of a display, dropped behind -/
theorem ev_ixN {i : Int} (ha : EN X a σ H (.lst xs)) (hb : EV X b σ H (.int i)) (hi : atI xs i = some v) (hs : PlainIx b := by intro _ _; rfl) : EV X (.Subscript a b pos) σ H v := fun H1 e Q q =>
  (we_ix (Q := fun v' H' => ∃ H'', Ex H'' H' ∧ Q v' H'') ix_list ((ha.ex e).we fun p hp => (hb.ex (e.new hp)).we fun H3 e3 => ⟨p, xs, i, v, rfl, rfl, .of (e3 p _ upd_same), hi, _, e3, H1, Ex.put hp, q⟩) hs).forget

/-! ## builtins called by name -/
theorem we_callB {id : String} {n : Str} (hm : X.mg n = none) (hv : bootBuiltins n = some (.builtin id)) (ha : WA X (e :: es) σ H fun vs H1 => WC X (.builtin id) vs H1 Q) (hg : Gl X n := by rfl) (hn : n ≠ "__name__" := by decide) (hdb : (n == ("__debug__" : Str)) = false := by decide)
    (he : starEach (e :: es) X.env = (false, eval e X.env) :: starEach es X.env := by rfl) (hpl : (backTo pos (starEach es X.env)).any (·.1) = false := by rfl) : WE X (.Call (.Name n p) (e :: es) [] pos) σ H Q :=
  .of (pe_callB call_W hg hm hv pa_W hn hdb he hpl) fun H1 x => ha.t x fun vs H2 ⟨H3, x3, w⟩ => w.t x3 fun _ _ q => q
theorem we_callTy {T : String} {n : Str} (hm : X.mg n = none) (hv : bootBuiltins n = some (.type T)) (ha : WA X (e :: es) σ H fun vs H1 => WC X (.type T) vs H1 Q) (hg : Gl X n := by rfl) (hn : n ≠ "__name__" := by decide) (hdb : (n == ("__debug__" : Str)) = false := by decide)
    (he : starEach (e :: es) X.env = (false, eval e X.env) :: starEach es X.env := by rfl) (hpl : (backTo pos (starEach es X.env)).any (·.1) = false := by rfl) : WE X (.Call (.Name n p) (e :: es) [] pos) σ H Q :=
  .of (pe_callTy call_W hg hm hv pa_W hn hdb he hpl) fun H1 x => ha.t x fun vs H2 ⟨H3, x3, w⟩ => w.t x3 fun _ _ q => q
theorem ev_callB {id : String} {n : Str} (hm : X.mg n = none) (hv : bootBuiltins n = some (.builtin id)) (ha : EA X (e :: es) σ H vs) (hc : EC X (.builtin id) vs H z) (hg : Gl X n := by rfl) (hn : n ≠ "__name__" := by decide) (hdb : (n == ("__debug__" : Str)) = false := by decide)
    (he : starEach (e :: es) X.env = (false, eval e X.env) :: starEach es X.env := by rfl) (hpl : (backTo pos (starEach es X.env)).any (·.1) = false := by rfl) : EV X (.Call (.Name n p) (e :: es) [] pos) σ H z := fun H1 x Q q =>
  we_callB hm hv ((ha.ex x).wa (hc H1 x Q q)) hg hn hdb he hpl
theorem ev_callTy {T : String} {n : Str} (hm : X.mg n = none) (hv : bootBuiltins n = some (.type T)) (ha : EA X (e :: es) σ H vs) (hc : EC X (.type T) vs H z) (hg : Gl X n := by rfl) (hn : n ≠ "__name__" := by decide) (hdb : (n == ("__debug__" : Str)) = false := by decide)
    (he : starEach (e :: es) X.env = (false, eval e X.env) :: starEach es X.env := by rfl) (hpl : (backTo pos (starEach es X.env)).any (·.1) = false := by rfl) : EV X (.Call (.Name n p) (e :: es) [] pos) σ H z := fun H1 x Q q =>
  we_callTy hm hv ((ha.ex x).wa (hc H1 x Q q)) hg hn hdb he hpl
theorem ec_of {r : List V → Hp → VK → Prop} (h : CallR X fn r) (q : ∀ H1, Ex H H1 → ∀ Q : VK, Q z H1 → r vs H1 Q) : EC X fn vs H z := fun H1 e Q k => .of h fun H2 e2 => q H2 (e.trans e2) _ ⟨H1, e2, k⟩
theorem cn_of {r : List V → Hp → VK → Prop} {o : HO} (h : CallR X fn r) (q : ∀ H1, Ex H H1 → ∀ Q : VK, (∀ p, H1 p = none → Q (.ref p) (upd H1 p o)) → r vs H1 Q) : CN X fn vs H o := fun H1 e Q k => .of h fun H2 e2 => q H2 (e.trans e2) _ fun p hp => ⟨_, e2.set p o, k p (e2.free hp)⟩
/-- a call as an argument: evaluated, a value -/
theorem ec_abs {i : Int} : EC X (.builtin "abs") [.int i] H (.int (if i < 0 then -i else i)) := ec_of call_abs fun _ _ _ q => ⟨i, rfl, q⟩
theorem ec_max {i j : Int} (hc : X.calm = true) : EC X (.builtin "max") [.int i, .int j] H (.int (if j > i then j else i)) := ec_of (call_max2 hc) fun _ _ _ q => ⟨i, j, rfl, q⟩
theorem ec_min {i j : Int} (hc : X.calm = true) : EC X (.builtin "min") [.int i, .int j] H (.int (if j < i then j else i)) := ec_of (call_min2 hc) fun _ _ _ q => ⟨i, j, rfl, q⟩
theorem ec_lenL {p : Addr} (h : SqL X.K H p xs) : EC X (.builtin "len") [.ref p] H (.int xs.length) := ec_of call_len_seq fun _ e _ q => ⟨p, xs, rfl, .inl (e.sqL h), q⟩
theorem ec_lenT {p : Addr} (h : SqT X.K H p xs) : EC X (.builtin "len") [.ref p] H (.int xs.length) := ec_of call_len_seq fun _ e _ q => ⟨p, xs, rfl, .inr (e.sqT h), q⟩
theorem ec_lenS {z : Str} (h : z.length ≤ sizeLine) : EC X (.builtin "len") [.str z] H (.int z.length) := ec_of call_len_str fun _ _ _ q => ⟨z, rfl, h, q⟩
theorem ec_lenD {p : Addr} {kvs : List (Key × V)} (h : H p = some (.dK kvs)) : EC X (.builtin "len") [.ref p] H (.int kvs.length) := ec_of call_lenD fun _ e _ q => ⟨p, kvs, rfl, e _ _ h, q⟩
theorem ec_sum {p : Addr} {ns : List Int} (h : SqL X.K H p (ns.map V.int)) (hc : X.calm = true) : EC X (.builtin "sum") [.ref p] H (.int ns.sum) := ec_of (cr_sum hc) fun _ e _ q => ⟨p, ns, rfl, e.sqL h, q⟩
theorem ec_all {p : Addr} {ns : List Bool} (h : SqL X.K H p (ns.map V.bl)) (hc : X.calm = true) : EC X (.builtin "all") [.ref p] H (.bl (ns.all id)) := ec_of (cr_all hc) fun _ e _ q => ⟨p, ns, rfl, e.sqL h, q⟩
theorem ec_any {p : Addr} {ns : List Bool} (h : SqL X.K H p (ns.map V.bl)) (hc : X.calm = true) : EC X (.builtin "any") [.ref p] H (.bl (ns.any id)) := ec_of (cr_any hc) fun _ e _ q => ⟨p, ns, rfl, e.sqL h, q⟩
theorem cn_divmod {i j : Int} (h : CDivP i j) : CN X (.builtin "divmod") [.int i, .int j] H (.tup [.int (i / j), .int (i % j)]) := cn_of call_divmodW fun _ _ _ q => ⟨i, j, rfl, h, q⟩
theorem cn_listL {p : Addr} (h : SqL X.K H p xs) : CN X (.type "list") [.ref p] H (.lst xs) := cn_of call_list_of fun _ e _ q => ⟨p, xs, rfl, .inl (e.sqL h), q⟩
theorem cn_listT {p : Addr} (h : SqT X.K H p xs) : CN X (.type "list") [.ref p] H (.lst xs) := cn_of call_list_of fun _ e _ q => ⟨p, xs, rfl, .inr (e.sqT h), q⟩
theorem cn_tupleL {p : Addr} (h : SqL X.K H p xs) : CN X (.type "tuple") [.ref p] H (.tup xs) := cn_of call_tuple_of fun _ e _ q => ⟨p, xs, rfl, .inl ⟨e.sqL h, q⟩⟩
theorem ec_tupleT {p : Addr} (h : SqT X.K H p xs) : EC X (.type "tuple") [.ref p] H (.ref p) := ec_of call_tuple_of fun _ e _ q => ⟨p, xs, rfl, .inr ⟨e.sqT h, q⟩⟩
theorem en_callB {id : String} {n : Str} {o : HO} (hm : X.mg n = none) (hv : bootBuiltins n = some (.builtin id)) (ha : EA X (e :: es) σ H vs) (hc : CN X (.builtin id) vs H o) (hg : Gl X n := by rfl) (hn : n ≠ "__name__" := by decide) (hdb : (n == ("__debug__" : Str)) = false := by decide)
    (he : starEach (e :: es) X.env = (false, eval e X.env) :: starEach es X.env := by rfl) (hpl : (backTo pos (starEach es X.env)).any (·.1) = false := by rfl) : EN X (.Call (.Name n p) (e :: es) [] pos) σ H o := fun H1 x Q q =>
  we_callB hm hv ((ha.ex x).wa (hc H1 x Q q)) hg hn hdb he hpl
theorem en_callTy {id : String} {n : Str} {o : HO} (hm : X.mg n = none) (hv : bootBuiltins n = some (.type id)) (ha : EA X (e :: es) σ H vs) (hc : CN X (.type id) vs H o) (hg : Gl X n := by rfl) (hn : n ≠ "__name__" := by decide) (hdb : (n == ("__debug__" : Str)) = false := by decide)
    (he : starEach (e :: es) X.env = (false, eval e X.env) :: starEach es X.env := by rfl) (hpl : (backTo pos (starEach es X.env)).any (·.1) = false := by rfl) : EN X (.Call (.Name n p) (e :: es) [] pos) σ H o := fun H1 x Q q =>
  we_callTy hm hv ((ha.ex x).wa (hc H1 x Q q)) hg hn hdb he hpl
/-- n.bit_length() -/
theorem ev_bits {i : Int} {apos : Pos} (ho : EV X a σ H (.int i)) (hbase : attributeBase a "bit_length" X.env (eval a X.env) = eval a X.env := by rfl) (hline : (apos.endLine == pos.line) = true := by rfl) : EV X (.Call (.Attribute a "bit_length" apos) [] [] pos) σ H (.int (Builtin.Int.intBits i : Nat)) := fun H1 x Q q =>
  .of (pe_bits pe_W hbase hline) fun H2 x2 => ((ho.ex x).we (Q := fun v H => v = .int i ∧ Q (.int (Builtin.Int.intBits i : Nat)) H) ⟨rfl, q⟩).t x2 fun v H3 ⟨H4, x4, e, q⟩ => ⟨i, e, H4, x4, q⟩
end
/-- what the code around wishes of an exception; it grows with the heap -/
structure Tk (X : Cx) (W : WX) : Prop where
  tk : Takes X W
  up : ∀ c d σ H H', W c d σ H → Ex H H' → W c d σ H'
  own : PassesOwn (model X.prog X.w) X.A X.env X.xe
section
variable {X : Cx} {W : WX} {e a b c tg iter : Expr} {es rest tgs : List Expr} {st : Stmt} {sts body : List Stmt} {σ : St} {H H1 H' : Hp} {Q Q1 : VK} {QB QB1 : Bool → Hp → Prop} {QA QA1 : List V → Hp → Prop} {D : Ends} {x y z v w : V} {pos p pos' : Pos} {f : Value → Value → Sem Value} {fn : Value} {xs vs : List V} {k l : Bool} {R R1 : St → Hp → Prop}

/-! ## blocks, small statements -/
theorem wss_nil (q : D.nx σ H) : WSs X [] D σ H := .of pss_nil fun H1 x => ⟨H, x, q⟩
theorem wss_cons (h : WS X st { D with nx := fun σ' H' => WSs X sts D σ' H' } σ H) : WSs X (st :: sts) D σ H :=
  .of (pss_cons ps_W pss_W) fun H1 x => ⟨H, _, x, h, ⟨fun σ' H2 ⟨H3, x3, w⟩ => ⟨H3, D, x3, w, EndsLe.rfl⟩, fun _ _ q => q, fun _ _ q => q, fun _ _ q => q⟩⟩
theorem wss_one (h : WS X st D σ H) : WSs X [st] D σ H := .of (pss_one ps_W) fun H1 x => ⟨H, D, x, h, EndsLe.rfl⟩
theorem ws_pass (q : D.nx σ H) : WS X (.Pass pos) D σ H := .of ps_pass fun H1 x => ⟨H, x, q⟩
theorem ws_break (q : D.bk σ H) : WS X (.Break pos) D σ H := .of ps_break fun H1 x => ⟨H, x, q⟩
theorem ws_continue (q : D.ct σ H) : WS X (.Continue pos) D σ H := .of ps_continue fun H1 x => ⟨H, x, q⟩
theorem ws_doc {t j} (q : D.nx σ H) : WS X (.Expr (.Constant (.str t) j pos) pos') D σ H := .of ps_doc fun H1 x => ⟨H, x, q⟩
theorem ws_expr (h : WE X e σ H fun _ H1 => D.nx σ H1) (hs : swapsWith e none pos.line X.env = pure false := by rfl) : WS X (.Expr e pos) D σ H :=
  .of (ps_expr pe_W hs) fun H1 x => h.t x fun _ _ q => q
theorem ws_ret (h : WE X e σ H D.rt) : WS X (.Return (some e) pos) D σ H := .of (ps_ret pe_W) fun H1 x => h.t x fun _ _ q => q
theorem ws_retN (q : D.rt .non H) : WS X (.Return none pos) D σ H := .of ps_retN fun H1 x => ⟨H, x, q⟩
theorem ws_if (h : WT X c σ H fun k H1 => if k = true then WSs X sts D σ H1 else WSs X body D σ H1) : WS X (.If c sts body pos) D σ H :=
  .of (ps_if pt_W pss_W pss_W) fun H1 x => h.t x fun k H2 ⟨H3, x3, q⟩ => by
    cases k with
    | true => exact iteT ⟨H3, D, x3, by simpa using q, EndsLe.rfl⟩
    | false => exact iteF ⟨H3, D, x3, by simpa using q, EndsLe.rfl⟩
theorem ws_ifE (h : ET X c σ H k) (h1 : k = true → WSs X sts D σ H) (h2 : k = false → WSs X body D σ H) : WS X (.If c sts body pos) D σ H := ws_if (h.wt (by
  cases k with
  | true => exact iteT (h1 rfl)
  | false => exact iteF (h2 rfl)))
theorem WS.le {D1 : Ends} (w : WS X st D σ H) (k : EndsLe D (upD D1)) : WS X st D1 σ H := fun H1 x pins s I => thn (w H1 x pins s I) fun u s' q => SP.le k q
/-- the ways of an if meet at M -/
theorem wss_cut (M : St → Hp → Prop) (h : WS X st { D with nx := M } σ H) (k : ∀ σ' H', M σ' H' → WSs X sts D σ' H') : WSs X (st :: sts) D σ H :=
  wss_cons (WS.le h (.i (fun _ _ m => k _ _ m) (fun _ _ q => q) (fun _ _ q => q) fun _ _ q => q))

/-! ## targets -/
def WG (X : Cx) (tg : Expr) (v : V) (σ : St) (H : Hp) (R : St → Hp → Prop) : Prop :=
  ∀ H1, Ex H H1 → ∀ pins s u, Inv X pins σ H1 s → RelV v u → wpAny (model X.prog X.w) X.A (assign tg X.env u) (fun _ s' => ∃ σ' H', Inv X pins σ' H' s' ∧ upS R σ' H') X.xe s
def tWG (X : Cx) (tg : Expr) : TG := fun v σ H1 R1 => ∃ H R, Ex H H1 ∧ WG X tg v σ H R ∧ ∀ σ' H2, upS R σ' H2 → R1 σ' H2
theorem pg_W : PG X tg (tWG X tg) := ⟨fun pins s σ H1 v u R1 I r ⟨H, R, x, w, k⟩ => thn (w H1 x pins s u I r) fun _ s' ⟨σ', H2, I2, q⟩ => ⟨σ', H2, I2, k _ _ q⟩⟩
theorem WG.of {t : TG} (h : PG X tg t) (q : ∀ H1, Ex H H1 → t v σ H1 (upS R)) : WG X tg v σ H R := fun H1 x pins s u I r => h.run pins s σ H1 v u _ I r (q H1 x)
theorem WG.t (w : WG X tg v σ H R) (x : Ex H H1) (k : ∀ σ' H2, upS R σ' H2 → R1 σ' H2) : tWG X tg v σ H1 R1 := ⟨H, R, x, w, k⟩
theorem wg_name {i : Nat} {n : Str} (hN : X.N.Nodup) (hi : X.N[i]? = some n) (q : R (σ.set i (some v)) H) (hx : Loc X.env.scope n := by first | exact .inl rfl | exact .inr rfl) (hf : X.fn n = true ∨ X.env.scope.names.lookup n = some .local := by first | exact .inl rfl | exact .inr rfl | assumption) : WG X (.Name n pos) v σ H R :=
  .of (pg_name hN hi hx hf) fun H1 x => ⟨H, x, q⟩
/-- several, from the left -/
def WGs (X : Cx) (ts : List Expr) (vs : List V) (σ : St) (H : Hp) (R : St → Hp → Prop) : Prop :=
  ∀ H1, Ex H H1 → ∀ pins s us, Inv X pins σ H1 s → Vals vs us → wpAny (model X.prog X.w) X.A (assignInOrder ((assignEach ts X.env).map (·.2)) us) (fun _ s' => ∃ σ' H', Inv X pins σ' H' s' ∧ upS R σ' H') X.xe s
def tWGs (X : Cx) (ts : List Expr) : TGs := fun vs σ H1 R1 => ∃ H R, Ex H H1 ∧ WGs X ts vs σ H R ∧ ∀ σ' H2, upS R σ' H2 → R1 σ' H2
theorem pgs_W : PGs X tgs (tWGs X tgs) := ⟨fun pins s σ H1 vs us R1 I r ⟨H, R, x, w, k⟩ => thn (w H1 x pins s us I r) fun _ s' ⟨σ', H2, I2, q⟩ => ⟨σ', H2, I2, k _ _ q⟩⟩
theorem WGs.of {t : TGs} (h : PGs X tgs t) (q : ∀ H1, Ex H H1 → t vs σ H1 (upS R)) : WGs X tgs vs σ H R := fun H1 x pins s us I r => h.run pins s σ H1 vs us _ I r (q H1 x)
theorem wgs_nil (q : R σ H) : WGs X [] [] σ H R := .of pgs_nil fun H1 x => ⟨rfl, H, x, q⟩
theorem wgs_cons (h : WG X tg v σ H fun σ' H' => WGs X tgs vs σ' H' R) (hs : (assignEach (tg :: tgs) X.env).map (·.2) = assign tg X.env :: (assignEach tgs X.env).map (·.2) := by rfl) : WGs X (tg :: tgs) (v :: vs) σ H R :=
  .of (pgs_cons pg_W pgs_W hs) fun H1 x => ⟨v, vs, rfl, h.t x fun σ' H2 ⟨H3, x3, w⟩ => ⟨H3, R, x3, w, fun _ _ q => q⟩⟩
theorem wg_tup {t : Addr} {i : Nat} (hs : SqT X.K H t vs) (h : WGs X tgs vs σ H R) (hc : X.calm = true := by rfl) (hn : (assignEach tgs X.env).length = vs.length := by rfl) (hst : (assignEach tgs X.env).findIdx? (·.1) = none := by rfl) : WG X (.Tuple tgs i pos) (.ref t) σ H R :=
  .of (pg_tup (n := vs.length) hc pgs_W hn hst) fun H1 x => ⟨t, vs, rfl, x.sqT hs, rfl, H, R, x, h, fun _ _ q => q⟩
theorem wg_lst {t : Addr} {i : Nat} (hs : SqL X.K H t vs) (h : WGs X tgs vs σ H R) (hc : X.calm = true := by rfl) (hn : (assignEach tgs X.env).length = vs.length := by rfl) (hst : (assignEach tgs X.env).findIdx? (·.1) = none := by rfl) : WG X (.Tuple tgs i pos) (.ref t) σ H R :=
  .of (pg_lst (n := vs.length) hc pgs_W hn hst) fun H1 x => ⟨t, vs, rfl, x.sqL hs, rfl, H, R, x, h, fun _ _ q => q⟩
/-- o[i] = v of a list -/
theorem wg_ixL {q : Addr} {i : Int} {j : Nat} (ho : EV X a σ H (.ref q)) (hi : EV X b σ H (.int i)) (hl : H q = some (.lst xs)) (hj : ixN xs.length i = some j) (h : R σ (upd H q (.lst (xs.set j v))))
    (ha : ∀ v, assign (.Subscript a b pos) X.env v = (do
      let ov ← holding [v] (eval a X.env)
      let iv ← holding [v, ov] (eval b X.env)
      standAt pos
      holding [v, ov, iv] (setItem ov iv v)
      release [v, ov, iv] []) := by intro _; rfl) : WG X (.Subscript a b pos) v σ H R :=
  .of (pg_sub pe_W pe_W set_list ha) fun H1 x => (ho.we (Q := fun v H' => v = .ref q ∧ H' = H) ⟨rfl, rfl⟩).t x fun o H2 ⟨H2', x2, eo, eH⟩ => by
    subst eo; subst eH
    refine (hi.we (Q := fun v H'' => v = .int i ∧ H'' = H2') ⟨rfl, rfl⟩).t x2 fun o H3 ⟨H3', x3, eo, eH⟩ => ?_
    subst eo; subst eH
    exact ⟨q, xs, i, j, rfl, rfl, x3 _ _ hl, hj, _, x3.set q _, h⟩
/-- o[i] = v of a dict -/
theorem wg_ixD {q : Addr} {kx : Key} {kvs : List (Key × V)} (hu : X.A.units + 1 < cLine) (ho : EV X a σ H (.ref q)) (hi : EV X b σ H (kV kx)) (hl : H q = some (.dK kvs)) (hz : kvs.length < 100000) (h : R σ (upd H q (.dK (putK kvs kx v))))
    (ha : ∀ v, assign (.Subscript a b pos) X.env v = (do
      let ov ← holding [v] (eval a X.env)
      let iv ← holding [v, ov] (eval b X.env)
      standAt pos
      holding [v, ov, iv] (setItem ov iv v)
      release [v, ov, iv] []) := by intro _; rfl) : WG X (.Subscript a b pos) v σ H R :=
  .of (pg_sub pe_W pe_W (set_dict hu) ha) fun H1 x => (ho.we (Q := fun v H' => v = .ref q ∧ H' = H) ⟨rfl, rfl⟩).t x fun o H2 ⟨H2', x2, eo, eH⟩ => by
    subst eo; subst eH
    refine (hi.we (Q := fun v H'' => v = kV kx ∧ H'' = H2') ⟨rfl, rfl⟩).t x2 fun o H3 ⟨H3', x3, eo, eH⟩ => ?_
    subst eo; subst eH
    exact ⟨q, _, rfl, DPut.k (k := kx) (x3 _ _ hl) (Nat.lt_of_lt_of_le hz (by decide)), _, x3.set q _, h⟩

/-! ## assignments -/
theorem ws_set {i : Nat} {n : Str} (hN : X.N.Nodup) (hi : X.N[i]? = some n) (h : WE X e σ H fun x H1 => D.nx (σ.set i (some x)) H1) (hx : Loc X.env.scope n := by first | exact .inl rfl | exact .inr rfl) (hs : swapsWith e (some (.Name n pos')) pos.line X.env = pure false := by rfl)
    (hf : X.fn n = true ∨ X.env.scope.names.lookup n = some .local := by first | exact .inl rfl | exact .inr rfl | assumption) : WS X (.Assign [.Name n pos'] e pos) D σ H :=
  .of (ps_set hN hi hx pe_W hs hf) fun H1 x => h.t x fun _ _ q => q
theorem ws_asg (h : WE X e σ H fun x H1 => WG X tg x σ H1 D.nx) (hs : swapsWithSole [tg] e pos.line X.env = pure false := by rfl) (hw : swappedStores [tg] e X.env = pure none := by rfl)
    (h1 : (assignEach [tg] X.env).map (·.2) = [assign tg X.env] := by rfl) : WS X (.Assign [tg] e pos) D σ H :=
  .of (ps_asg pe_W pg_W hs hw h1) fun H1 x => h.t x fun v H2 ⟨H3, x3, w⟩ => w.t x3 fun _ _ q => q
def IP (X : Cx) (op : Operator) (x y : V) (H : Hp) (z : V) : Prop := EO X (inplaceOp op) x y H z
theorem ws_aug {i : Nat} {n : Str} {op : Operator} (hN : X.N.Nodup) (hi : X.N[i]? = some n) (hx : σ[i]? = some (some x)) (h : WE X e σ H fun y H1 => WO X (inplaceOp op) x y H1 fun z H2 => D.nx (σ.set i (some z)) H2) (hl : Loc X.env.scope n := by first | exact .inl rfl | exact .inr rfl)
    (hf : X.fn n = true ∨ X.env.scope.names.lookup n = some .local := by first | exact .inl rfl | exact .inr rfl | assumption) : WS X (.AugAssign (.Name n pos') op e pos) D σ H :=
  .of (ps_aug hN hi hl pe_W (fun pins s σ H x y v u Q I rx ry q => op_W pins s σ H x y v u Q I rx ry q) hf) fun H1 e1 => ⟨x, hx, h.t e1 fun y H2 ⟨H3, x3, w⟩ => w.t x3 fun _ _ q => q⟩
section
variable {i j : Int}
theorem ip_add : EO X (inplaceOp .Add) (.int i) (.int j) H (.int (i + j)) := eo_of iop_add fun _ _ _ q => ⟨i, j, rfl, rfl, q⟩
theorem ip_sub : EO X (inplaceOp .Sub) (.int i) (.int j) H (.int (i - j)) := eo_of iop_sub fun _ _ _ q => ⟨i, j, rfl, rfl, q⟩
theorem ip_mul (h : CMul i j) : EO X (inplaceOp .Mult) (.int i) (.int j) H (.int (i * j)) := eo_of iop_mul fun _ _ _ q => ⟨i, j, rfl, rfl, h, q⟩
theorem ip_shr (h : 0 ≤ j) : EO X (inplaceOp .RShift) (.int i) (.int j) H (.int (i / 2 ^ j.toNat)) := eo_of iop_shr fun _ _ _ q => ⟨i, j, rfl, rfl, h, q⟩
end

/-! ## loops -/
/-- while, by an invariant with its measure -/
theorem ws_while (tk : Tk X W) (Pv : Nat → St → Hp → Prop) (m : Nat) (h0 : Pv m σ H)
    (hs : ∀ m σ' H', Pv m σ' H' → WT X c σ' H' fun k H2 => if k = true then WSs X body { D with nx := fun σ3 H3 => ∃ m', m' < m ∧ Pv m' σ3 H3, ct := fun σ3 H3 => ∃ m', m' < m ∧ Pv m' σ3 H3, bk := D.nx } σ' H2 else D.nx σ' H2) : WS X (.While c body [] pos) D σ H :=
  .of (ps_while tk.own pt_W pss_W) fun H1 x => ⟨fun m => upS (Pv m), ⟨m, H, x, h0⟩, fun m σ' H2 ⟨H3, x3, p⟩ => (hs m σ' H3 p).t x3 fun k H4 ⟨H5, x5, q⟩ => by
    cases k with
    | true =>
      rw [if_pos rfl] at q
      exact iteT ⟨fun σ6 H6 => ∃ m', m' < m ∧ upS (Pv m') σ6 H6, fun _ _ n => n, H5, _, x5, q, ⟨fun _ _ ⟨H7, x7, m', l, p⟩ => ⟨m', l, H7, x7, p⟩, fun _ _ q => q, fun _ _ q => q, fun _ _ ⟨H7, x7, m', l, p⟩ => ⟨m', l, H7, x7, p⟩⟩⟩
    | false => exact iteF ⟨H5, x5, by simpa using q⟩⟩
theorem ws_whileE (tk : Tk X W) (Pv : Nat → St → Hp → Prop) (m : Nat) (h0 : Pv m σ H)
    (hs : ∀ m σ' H', Pv m σ' H' → ∃ k, ET X c σ' H' k ∧ (k = true → WSs X body { D with nx := fun σ3 H3 => ∃ m', m' < m ∧ Pv m' σ3 H3, ct := fun σ3 H3 => ∃ m', m' < m ∧ Pv m' σ3 H3, bk := D.nx } σ' H') ∧ (k = false → D.nx σ' H')) : WS X (.While c body [] pos) D σ H :=
  ws_while tk Pv m h0 fun m σ' H' p => by
    obtain ⟨k, h, h1, h2⟩ := hs m σ' H' p
    exact h.wt (by
      cases k with
      | true => exact iteT (h1 rfl)
      | false => exact iteF (h2 rfl))
/-- what is walked: the iterator's behaviour J -/
def WI (X : Cx) (tg iter : Expr) (σ : St) (H : Hp) (R : It → Hp → Prop) : Prop := ∃ wi, PI X tg iter wi ∧ ∀ H1, Ex H H1 → wi σ H1 fun J H2 => ∃ H', Ex H' H2 ∧ R J H'
/-- for .. in a list that the body leaves as it is -/
theorem ws_forL {q : Addr} (tk : Tk X W) (hl : EV X iter σ H (.ref q)) (hx : SqL X.K H q xs) (Pv : Nat → St → Hp → Prop) (h0 : Pv 0 σ H) (keep : ∀ i σ' H', i ≤ xs.length → Pv i σ' H' → SqL X.K H' q xs)
    (turn : ∀ i x σ' H', xs[i]? = some x → Pv i σ' H' → WG X tg x σ' H' fun σ2 H2 => WSs X body { D with nx := Pv (i + 1), ct := Pv (i + 1), bk := D.nx } σ2 H2)
    (done : ∀ σ' H', Pv xs.length σ' H' → D.nx σ' H') (hc : X.calm = true := by rfl) (hs : ∀ x, foldedSetIterable iter X.env x = pure x := by intro _; rfl) : WS X (.For tg iter body [] pos) D σ H :=
  .of (ps_for tk.own hc (pi_list pe_W) pg_W pss_W hs) fun H1 x => (hl.we (Q := fun v H' => v = .ref q ∧ H' = H) ⟨rfl, rfl⟩).t x fun o H2 ⟨H2', x2, eo, eH⟩ => by
    subst eo; subst eH
    refine ⟨q, rfl, ⟨xs, x2.sqL hx⟩, for_list (K := X.K) (a := q) (xs := xs) (fun i => upS (Pv i)) ⟨_, x2, h0⟩ (fun i σ' H3 hi ⟨H4, x4, p⟩ => x4.sqL (keep i σ' H4 hi p)) (fun i y σ' H3 hi ⟨H4, x4, p⟩ => ?_) fun σ' H3 ⟨H4, x4, p⟩ => ⟨H4, x4, done _ _ p⟩⟩
    exact (turn i y σ' H4 hi p).t x4 fun σ5 H5 ⟨H6, x6, w⟩ => ⟨H6, _, x6, w, ⟨fun _ _ q => q, fun _ _ q => q, fun _ _ q => q, fun _ _ q => q⟩⟩
theorem ws_forT {q : Addr} (tk : Tk X W) (hl : EV X iter σ H (.ref q)) (hx : SqT X.K H q xs) (Pv : Nat → St → Hp → Prop) (h0 : Pv 0 σ H) (keep : ∀ i σ' H', i ≤ xs.length → Pv i σ' H' → SqT X.K H' q xs)
    (turn : ∀ i x σ' H', xs[i]? = some x → Pv i σ' H' → WG X tg x σ' H' fun σ2 H2 => WSs X body { D with nx := Pv (i + 1), ct := Pv (i + 1), bk := D.nx } σ2 H2)
    (done : ∀ σ' H', Pv xs.length σ' H' → D.nx σ' H') (hc : X.calm = true := by rfl) (hs : ∀ x, foldedSetIterable iter X.env x = pure x := by intro _; rfl) : WS X (.For tg iter body [] pos) D σ H :=
  .of (ps_for tk.own hc (pi_tup pe_W) pg_W pss_W hs) fun H1 x => (hl.we (Q := fun v H' => v = .ref q ∧ H' = H) ⟨rfl, rfl⟩).t x fun o H2 ⟨H2', x2, eo, eH⟩ => by
    subst eo; subst eH
    refine ⟨q, rfl, ⟨xs, x2.sqT hx⟩, for_tup (K := X.K) (a := q) (xs := xs) (fun i => upS (Pv i)) ⟨_, x2, h0⟩ (fun i σ' H3 hi ⟨H4, x4, p⟩ => x4.sqT (keep i σ' H4 hi p)) (fun i y σ' H3 hi ⟨H4, x4, p⟩ => ?_) fun σ' H3 ⟨H4, x4, p⟩ => ⟨H4, x4, done _ _ p⟩⟩
    exact (turn i y σ' H4 hi p).t x4 fun σ5 H5 ⟨H6, x6, w⟩ => ⟨H6, _, x6, w, ⟨fun _ _ q => q, fun _ _ q => q, fun _ _ q => q, fun _ _ q => q⟩⟩
/-- for .. in range(n) -/
theorem ws_forR {n : Int} {p : Pos} (tk : Tk X W) (hm : X.mg "range" = none) (ha : EV X a σ H (.int n)) (hn : n ≤ 1000000) (hn0 : -1000000 ≤ n) (Pv : Nat → St → Hp → Prop) (h0 : Pv 0 σ H)
    (turn : ∀ (i : Nat) σ' H', (i : Int) < n → Pv i σ' H' → WG X tg (.int i) σ' H' fun σ2 H2 => WSs X body { D with nx := Pv (i + 1), ct := Pv (i + 1), bk := D.nx } σ2 H2)
    (done : ∀ σ' H', Pv n.toNat σ' H' → D.nx σ' H') (hc : X.calm = true := by rfl) (hg : Gl X "range" := by rfl) (hse : starEach [a] X.env = [(false, eval a X.env)] := by rfl) (hs : ∀ x, foldedSetIterable (.Call (.Name "range" p) [a] [] pos') X.env x = pure x := by intro _; rfl) :
    WS X (.For tg (.Call (.Name "range" p) [a] [] pos') body [] pos) D σ H :=
  .of (ps_for tk.own hc (pi_range1 hg hm (pa_cons pe_W pa_nil hse) hse) pg_W pss_W hs) fun H1 x => (ha.we (Q := fun v H' => v = .int n ∧ H' = H) ⟨rfl, rfl⟩).t x fun o H2 ⟨H2', x2, eo, eH⟩ => by
    subst eo; subst eH
    refine ⟨n, rfl, by omega, by omega, for_range (lo := 0) (n := n.toNat) (fun i => upS (Pv i)) ⟨_, x2, h0⟩ (fun i σ' H3 hi ⟨H4, x4, p⟩ => ?_) fun σ' H3 ⟨H4, x4, p⟩ => ⟨H4, x4, done _ _ p⟩⟩
    rw [Int.zero_add]
    exact (turn i σ' H4 (by omega) p).t x4 fun σ5 H5 ⟨H6, x6, w⟩ => ⟨H6, _, x6, w, ⟨fun _ _ q => q, fun _ _ q => q, fun _ _ q => q, fun _ _ q => q⟩⟩
end
/-! ## defs: a promise that is kept wherever no repr is at work -/
structure FnG (P : Program) (w : World) (K : PySem.W.Frag) (mg : Str → Option Value) (base : Heap) (k : Nat) (f : Addr) (fd : FuncData) (ps : List Str) (sp : Sp) : Prop where
  len : ∀ vs H Q E, sp vs H Q E → vs.length = ps.length
  run : ∀ (A : Around) (outer : List Env) (s : Shared) (H1 : Hp) (args : Args) (us : List Value) (vs : List V) (H : Hp) (Q : VK) (E : XK), Room k A → A.guards = some [] → Env0 P w K mg base A outer s H1 → BindsTo s fd args (ps.zip us) → Vals vs us → Ex H H1 →
    sp vs H Q E → codeAny (model P w) A (.call (.ref f) args) (CR (L2.CX P w) outer P w H1 s (up Q) (upE E)) s
/-- the code around: room, no repr, its wish -/
structure Cn (X : Cx) (W : WX) (k : Nat) : Prop where
  room : Room k X.A
  gd : X.A.guards = some []
  tk : Takes X W
  wu : ∀ c d σ H H', W c d σ H → Ex H H' → W c d σ H'
theorem Cn.mono {X : Cx} {W : WX} {j k : Nat} (c : Cn X W k) (h : j ≤ k) : Cn X W j := ⟨c.room.mono h, c.gd, c.tk, c.wu⟩
abbrev Own (X : Cx) : Prop := PassesOwn (model X.prog X.w) X.A X.env X.xe
theorem Cn.t {X : Cx} {W : WX} {k : Nat} (c : Cn X W k) (o : Own X) : Tk X W := ⟨c.tk, c.wu, o⟩

/-- a def's body as it runs -/
abbrev fx (P : Program) (w : World) (K : PySem.W.Frag) (mg : Str → Option Value) (base : Heap) (N : List Str) (qual : Str) (st : Stmt) (f : Addr) (cd : Value) (A : Around) (outer : List Env) (s : Shared) (H : Hp) (E : XK) : Cx :=
  cxOf (L2.CX P w) P w K mg base N qual (defScope st) f cd A outer s H E
section
variable {P : Program} {w : World} {K : PySem.W.Frag} {mg : Str → Option Value} {base : Heap}
/-- THE RULE of a def: its body -/
theorem fng_of {x qual : Str} {st : Stmt} {f : Addr} {fd : FuncData} {N ps : List Str} {k : Nat} {sp : Sp} (F : Fun K x qual st f fd) (S : FnScope N ps (defScope st)) (len : ∀ vs H Q E, sp vs H Q E → vs.length = ps.length)
    (body : ∀ (cd : Value) (A : Around) (outer : List Env) (s : Shared) (H1 : Hp) (E1 : XK) (W : WX) (vs : List V) (H : Hp) (Q : VK) (E : XK), Cn (fx P w K mg base N qual st f cd A outer s H1 E1) W k → Own (fx P w K mg base N qual st f cd A outer s H1 E1) →
      (∀ c d σ H', E c d H' → W c d σ H') → sp vs H Q E → WSs (fx P w K mg base N qual st f cd A outer s H1 E1) (defBody st) { nx := fun _ H' => Q .non H', rt := Q } (start N vs) H) : FnG P w K mg base (k + 1) f fd ps sp := by
  obtain ⟨oc, od, kV, doc, pm, an, cd, ct, osl, rfl, lk, hcd⟩ := F.ex
  refine ⟨len, fun A outer s H1 args us vs H Q E hr hgd e0 hb r hx hsp => ?_⟩
  have KX : K.In s.heap := e0.mod.kin.keeps fun b o e => (e0.bs b o e).1
  have hl := len _ _ _ _ hsp
  have kinds : ∀ y ∈ ps.zip us, (defScope st).names.lookup y.1 = some .local ∨ ((defScope st).names.lookup y.1 = some .cell ∧ ((cellsFrom (s.heap.objs.size + 1) (defScope st).names []).lookup y.1).isSome = true) := by
    rintro ⟨n, v⟩ hy
    rcases S.par n (List.of_mem_zip hy).1 with q | q
    · exact .inl q
    · exact .inr ⟨q, PySem.W.cellsFrom_some _ _ _ (.inl q)⟩
  refine codeAny_call_function hr.depth (KX _ _ lk) rfl S.co S.gen rfl (PySem.W.codeRec_of KX hcd) (hb _ _ _ _ (wpAny_newFunctionEnv_cells S.kind kinds fun env he s1 x => ?_))
  subst he
  refine ⟨(e0.mod.nolimit.keeps fun b o e => (e0.bs b o e).1).keeps x.toInCall.keep, codeAny_func ?_⟩
  have I := inv_start (CX := L2.CX P w) (E := upE E) S hr.hd e0 hl r x
  have c : Cn (fx P w K mg base N qual st f cd A outer s H1 (upE E)) (fun c d _ H' => upE E c d H') k :=
    ⟨hr.deeper _, hgd, takes_of (E := upE E) rfl rfl rfl rfl, fun c d σ H H' ⟨H2, x2, q⟩ x3 => ⟨H2, x2.trans x3, q⟩⟩
  have w1 := body cd A outer s H1 (upE E) _ vs H Q E c (passes_of rfl) (fun c d σ H' q => ⟨H', Ex.refl H', q⟩) hsp
  refine wpAny_mono (w1 H1 hx [] s1 I) (fun fl s' q => ?_) fun e s' q => q
  cases fl with
  | ret u =>
    obtain ⟨v, σ', H', J, rv, q⟩ := q
    exact ⟨v, H', J.os, J.bare, J.base, J.hok, rv, q⟩
  | next =>
    obtain ⟨σ', H', J, q⟩ := q
    exact ⟨.non, H', J.os, J.bare, J.base, J.hok, rfl, q⟩
  | brk =>
    obtain ⟨_, _, _, _, _, q⟩ := q
    exact q.elim
  | cont =>
    obtain ⟨_, _, _, _, _, q⟩ := q
    exact q.elim
/-- a def that is found under its name: level, parameters, defaults, promise -/
structure Cal (P : Program) (w : World) (K : PySem.W.Frag) (mg : Str → Option Value) (base : Heap) (n : Str) (k : Nat) (ps : List Str) (dvs : List V) (sp : Sp) : Prop where
  ex : ∃ (f : Addr) (fd : FuncData) (ds : List Value), FnG P w K mg base k f fd ps sp ∧ mg n = some (.ref f) ∧ PySem.W.keepIn K (.ref f) = true ∧ Binds K fd ps ds ∧ Vals dvs ds ∧ ∃ oc od osl, K.lookup f = some ⟨oc, od, .func fd, osl⟩
/-- where a def stands -/
structure Def (K : PySem.W.Frag) (mg : Str → Option Value) (n : Str) (st : Stmt) (ps : List Str) : Type where
  f : Addr
  fd : FuncData
  F : Fun K n n st f fd
  g : mg n = some (.ref f)
  b : Binds K fd ps []
theorem Def.cal {n : Str} {st : Stmt} {ps N : List Str} {k : Nat} {sp : Sp} (d : Def K mg n st ps) (S : FnScope N ps (defScope st)) (len : ∀ vs H Q E, sp vs H Q E → vs.length = ps.length)
    (body : ∀ (cd : Value) (A : Around) (outer : List Env) (s : Shared) (H1 : Hp) (E1 : XK) (W : WX) (vs : List V) (H : Hp) (Q : VK) (E : XK), Cn (fx P w K mg base N n st d.f cd A outer s H1 E1) W k → Own (fx P w K mg base N n st d.f cd A outer s H1 E1) →
      (∀ c d σ H', E c d H' → W c d σ H') → sp vs H Q E → WSs (fx P w K mg base N n st d.f cd A outer s H1 E1) (defBody st) { nx := fun _ H' => Q .non H', rt := Q } (start N vs) H) : Cal P w K mg base n (k + 1) ps [] sp :=
  ⟨d.f, d.fd, [], fng_of d.F S len body, d.g, d.F.kp, d.b, .nil, by
    obtain ⟨oc, od, kV, doc, pm, an, cd, ct, osl, e, lk, _⟩ := d.F.ex
    exact ⟨oc, od, osl, lk⟩⟩
end

section
variable {X : Cx} {W : WX} {e : Expr} {es : List Expr} {σ : St} {H H1 : Hp} {Q : VK} {E : XK} {v : V} {vs dvs : List V} {n : Str} {k j : Nat} {f : Addr} {fd : FuncData} {ps : List Str} {sp : Sp} {us ds : List Value} {p pos : Pos} {pins : List (Addr × Obj)} {s : Shared}
theorem run_fng (F : FnG X.prog X.w X.K X.mg X.base k f fd ps sp) (c : Cn X W k) (hb : Binds X.K fd ps ds) (hd : Vals dvs ds) (I : Inv X pins σ H1 s) (x : Ex H H1) (r : Vals vs us) (h : sp (vs ++ dvs) H Q fun c d H' => W c d σ H') :
    wpAny (model X.prog X.w) X.A (call (.ref f) us) (EP X pins σ (up Q)) X.xe s := by
  have r2 := r.append hd
  have hl : (us ++ ds).length = ps.length := r2.length.symm.trans (F.len _ _ _ _ h)
  refine wpAny_call (codeAny_mono (F.run X.A X.stack s H1 ⟨us, []⟩ (us ++ ds) (vs ++ dvs) H Q _ c.room c.gd I.env0 (hb s us I.kIn hl) r2 x h) fun res s' q => ?_)
  rcases res with er | fl
  · exact c.tk er s' (XE.of_call I (fun cl d H' ⟨H2, x2, q2⟩ => c.wu _ _ _ _ _ q2 x2) q)
  · cases fl with
    | ret u => exact I.after q
    | _ => exact q.elim
theorem we_call (C : Cal X.prog X.w X.K X.mg X.base n k ps dvs sp) (c : Cn X W j) (ha : WA X (e :: es) σ H fun vs H1 => sp (vs ++ dvs) H1 Q fun c d H' => W c d σ H') (hkj : k ≤ j := by decide) (hg : Gl X n := by rfl) (hdb : (n == ("__debug__" : Str)) = false := by decide)
    (he : starEach (e :: es) X.env = (false, eval e X.env) :: starEach es X.env := by rfl) (hpl : (backTo pos (starEach es X.env)).any (·.1) = false := by rfl) : WE X (.Call (.Name n p) (e :: es) [] pos) σ H Q := by
  obtain ⟨f, fd, ds, F, hm, hk, hb, hd, _⟩ := C.ex
  intro H1 x pins s I
  refine wpAny_Call_Name_kw (ld_glob I hg hm (PySem.W.callWith_K (h₀ := X.base) I.ok.mod.kin hk (thn (ha H1 x pos pins s I) fun us s1 ⟨vs, H2, I2, r, H3, x3, q⟩ => ⟨I2.kIn, ?_⟩) he hpl) hdb)
  exact run_fng F (c.mono hkj) hb hd I2 x3 r q
theorem we_call0 (C : Cal X.prog X.w X.K X.mg X.base n k ps dvs sp) (c : Cn X W j) (h : sp dvs H Q fun c d H' => W c d σ H') (hkj : k ≤ j := by decide) (hg : Gl X n := by rfl) (hdb : (n == ("__debug__" : Str)) = false := by decide) : WE X (.Call (.Name n p) [] [] pos) σ H Q := by
  obtain ⟨f, fd, ds, F, hm, hk, hb, hd, _⟩ := C.ex
  intro H1 x pins s I
  exact wpAny_Call_Name_kw (ld_glob I hg hm (PySem.W.callWith_K0 I.kIn hk (run_fng (us := []) (vs := []) F (c.mono hkj) hb hd I x .nil h)) hdb)
/-- a call whose value is told by the arguments, that leaves all as it is -/
theorem ev_call (C : Cal X.prog X.w X.K X.mg X.base n k ps dvs sp) (c : Cn X W j) (ha : EA X (e :: es) σ H vs) (h : ∀ H1, Ex H H1 → ∀ Q E, Q v H1 → sp (vs ++ dvs) H1 Q E) (hkj : k ≤ j := by decide) (hg : Gl X n := by rfl) (hdb : (n == ("__debug__" : Str)) = false := by decide)
    (he : starEach (e :: es) X.env = (false, eval e X.env) :: starEach es X.env := by rfl) (hpl : (backTo pos (starEach es X.env)).any (·.1) = false := by rfl) : EV X (.Call (.Name n p) (e :: es) [] pos) σ H v := fun H1 x Q q =>
  we_call C c ((ha.ex x).wa (h H1 x Q _ q)) hkj hg hdb he hpl
end

/-! ## raise -/
section
variable {X : Cx} {W : WX} {e : Expr} {es : List Expr} {σ : St} {H H1 : Hp} {Q : VK} {D : Ends} {E : XK} {n : Str} {C : Addr} {p pos : Pos} {k : Nat}
def WM (X : Cx) (e : Expr) (σ : St) (H : Hp) (E : XK) : Prop := ∀ H1, Ex H H1 → ∀ pins s, Inv X pins σ H1 s → wpAny (model X.prog X.w) X.A (eval e X.env) (MkP X pins σ (upE E)) X.xe s
theorem ws_raise (c : Cn X W k) (h : WM X e σ H fun c d H' => W c d σ H') (hc : X.calm = true := by rfl) : WS X (.Raise (some e) none pos) D σ H :=
  .of (ps_raise hc c.tk (t := fun σ H1 E1 => ∃ H E, Ex H H1 ∧ WM X e σ H E ∧ ∀ c d H', upE E c d H' → E1 c d H') fun pins s σ H1 E1 I ⟨H, E, x, w, k⟩ =>
    thn (w H1 x pins s I) fun u s1 ⟨a, oe, vs, sI, H', cls, d, e1, J, k1, hne, ha, hz, hd, h1, na, os, ag, r, q⟩ => ⟨a, oe, vs, sI, H', cls, d, e1, J, k1, hne, ha, hz, hd, h1, na, os, ag, r, k _ _ _ q⟩)
    fun H1 x => ⟨H, _, x, h, fun c1 d1 H' ⟨H2, x2, q⟩ => c.wu _ _ _ _ _ q x2⟩
/-- an own class of error without an __init__ -/
structure ErrC (K : PySem.W.Frag) (mg : Str → Option Value) (n : Str) (C : Addr) : Prop where
  g : mg n = some (.ref C)
  x : PySem.W.excIn K C [.type "ValueError", .type "Exception", .type "BaseException", .type "object"] "ValueError.__new__" = true
  kp : PySem.W.keepIn K (.ref C) = true
  sb : PySem.W.subIn K (.ref C) (.type "BaseException") = some true
  ty : PySem.W.typeIn K (.ref C) = some (.type "type")
  dd : PySem.W.hasDictIn K C = true
theorem wm_err (T : ErrC X.K X.mg n C) (ha : WA X (e :: es) σ H fun vs H1 => vs.length ≤ 1000 ∧ E (.ref C) none H1) (hg : Gl X n := by rfl) (hdb : (n == ("__debug__" : Str)) = false := by decide)
    (he : starEach (e :: es) X.env = (false, eval e X.env) :: starEach es X.env := by rfl) (hpl : (backTo pos (starEach es X.env)).any (·.1) = false := by rfl) : WM X (.Call (.Name n p) (e :: es) [] pos) σ H E := fun H1 x pins s I =>
  (pmk_ownA PySem.F.excBase_ValueError T.x T.g T.kp (raises_own T.sb T.ty) hg pa_W hdb he hpl) pins s σ H1 _ I (ha.t x fun vs H2 ⟨H3, x3, hz, q⟩ => ⟨Nat.le_trans hz (by decide), H3, x3, q⟩)
end

/-! ## f-strings -/
section
variable {X : Cx} {e a b : Expr} {es : List Expr} {σ : St} {H H1 : Hp} {p pos : Pos}
theorem ev_fmtI {i : Int} (h : EV X e σ H (.int i)) (hi : i.natAbs.log2 < 1920) : EV X (.FormattedValue e (-1) none pos) σ H (.str (toString i)) := fun H1 x Q q =>
  .of (pe_fmt pe_W) fun H2 x2 => ((h.ex x).we (Q := fun v H => v = .int i ∧ Q (.str (toString i)) H) ⟨rfl, q⟩).t x2 fun v H3 ⟨H4, x4, ev, q⟩ => .inr ⟨i, ev, hi, H4, x4, q⟩
theorem ev_fmtS {y : Str} (h : EV X e σ H (.str y)) (hi : y.length ≤ sizeLine) : EV X (.FormattedValue e (-1) none pos) σ H (.str y) := fun H1 x Q q =>
  .of (pe_fmt pe_W) fun H2 x2 => ((h.ex x).we (Q := fun v H => v = .str y ∧ Q (.str y) H) ⟨rfl, q⟩).t x2 fun v H3 ⟨H4, x4, ev, q⟩ => .inl ⟨y, ev, hi, H4, x4, q⟩
inductive JV (X : Cx) (σ : St) (H : Hp) : List Expr → List Str → Prop where
  | nil : JV X σ H [] []
  | cons {e : Expr} {y : Str} {es : List Expr} {ys : List Str} (h : EV X e σ H (.str y)) (r : JV X σ H es ys) : JV X σ H (e :: es) (y :: ys)
theorem JV.pj {ys : List Str} (h : JV X σ H es ys) : PJ X es (es.map (tWE X)) := by
  induction h with
  | nil => exact .nil
  | cons h r ih => exact .cons pe_W ih
theorem strlen (a b : Str) : (a ++ b).length = a.length + b.length := by
  show (Str.mk (a.cps ++ b.cps)).cps.size = _
  simp [Str.length]
theorem JV.run {ys : List Str} (h : JV X σ H es ys) : ∀ (acc : Str) (Q : Str → Hp → Prop) (H1 H2 : Hp), Ex H H1 → Ex H1 H2 → acc.length + (ys.map Str.length).sum ≤ sizeLine → (∀ H3, Ex H1 H3 → Q (ys.foldl (· ++ ·) acc) H3) → tJs (es.map (tWE X)) acc σ H2 Q := by
  induction h with
  | nil => intro acc Q H1 H2 x x2 hz k; exact k H2 x2
  | @cons e y es ys h r ih =>
    intro acc Q H1 H2 x x2 hz k
    refine ((h.ex x).we (Q := fun v H => v = .str y ∧ H = H1) ⟨rfl, rfl⟩).t x2 fun v H3 ⟨H4, x4, ev, eH⟩ => ?_
    subst ev; subst eH
    have hz2 : acc.length + (y.length + (ys.map Str.length).sum) ≤ sizeLine := by simpa using hz
    exact ⟨y, rfl, by rw [strlen]; omega, ih (acc ++ y) Q H4 H3 x x4 (by rw [strlen]; omega) k⟩
theorem ev_joined {ys : List Str} {z : Str} (h : JV X σ H (a :: b :: es) ys) (hz : (ys.map Str.length).sum ≤ 1000000) (e : ys.foldl (· ++ ·) Str.empty = z) : EV X (.JoinedStr (a :: b :: es) pos) σ H (.str z) := fun H1 x Q q =>
  .of (pe_joined h.pj) fun H2 x2 => h.run Str.empty _ H1 H2 x x2 (by show 0 + _ ≤ _; rw [Nat.zero_add]; exact Nat.le_trans hz (by decide)) fun H3 x3 => by rw [e]; exact ⟨H1, x3, q⟩
end
/-! ## try -/
section
variable {X : Cx} {W : WX} {body suite : List Stmt} {b0 : Stmt} {σ : St} {H H1 : Hp} {D : Ends} {n x : Str} {i k : Nat} {c : Value} {np pos pos' : Pos}
/-- the suite's ends, the name gone -/
def endsAs (i : Nat) (D : Ends) : Ends := { nx := fun σ' H' => D.nx (σ'.set i none) H', rt := D.rt, bk := fun σ' H' => D.bk (σ'.set i none) H', ct := fun σ' H' => D.ct (σ'.set i none) H' }
def Suite (X : Cx) (a : Addr) (cls : Value) (d : Option Addr) (sts : List Stmt) (D : Ends) (σ : St) (H : Hp) : Prop := ∀ oe pn, Zc cls d oe → (∃ vs, oe.data = .fields vs) → WSs (X.suite a ((a, oe) :: pn)) sts D σ H
/-- what the body may let out: the clause's own, or what passes on -/
def wishAs (X : Cx) (c : Value) (i : Nat) (sts : List Stmt) (W : WX) (D : Ends) : WX := fun cls d σ H =>
  ∃ b, PySem.W.exmOne X.K cls c = some b ∧ (b = true → ∀ a, Suite X a cls d sts (endsAs i D) (σ.set i (some (.ref a))) H) ∧ (b = false → W cls d σ H)
def wishO (X : Cx) (c : Value) (sts : List Stmt) (W : WX) (D : Ends) : WX := fun cls d σ H =>
  ∃ b, PySem.W.exmOne X.K cls c = some b ∧ (b = true → ∀ a, Suite X a cls d sts D σ H) ∧ (b = false → W cls d σ H)
def upW (W : WX) : WX := fun c d σ H => ∃ H', Ex H' H ∧ W c d σ H'
theorem Cn.tr {k : Nat} {W W1 : WX} {pn : List (Addr × Obj)} {xe : Value → Shared → Prop} (cn : Cn X W k) (tk : Takes (X.tr pn xe) W1) (h : ∀ c d σ H, upW W1 c d σ H → W1 c d σ H) : Cn (X.tr pn xe) W1 k :=
  ⟨cn.room, cn.gd, tk, fun c d σ H H' w x => h _ _ _ _ ⟨H, x, w⟩⟩
def tSuite (X : Cx) (sts : List Stmt) (a : Addr) (cls : Value) (d : Option Addr) : TS := fun D1 σ H1 => ∃ H D, Ex H H1 ∧ Suite X a cls d sts D σ H ∧ EndsLe D D1
def tBody (X : Cx) (sts : List Stmt) (W : WX) : TS := fun D1 σ H1 => ∃ H D, Ex H H1 ∧ (∀ pn xe, Takes (X.tr pn xe) W → PassesOwn (model X.prog X.w) X.A X.env xe → WSs (X.tr pn xe) sts D σ H) ∧ EndsLe D D1
/-- try: body / except x as n: suite -/
theorem ws_tryAs (cn : Cn X W k) (hN : X.N.Nodup) (hi : X.N[i]? = some n) (hx : X.mg x = some c) (h : ∀ pn xe, Cn (X.tr pn xe) (upW (wishAs X c i (b0 :: suite) W D)) k → PassesOwn (model X.prog X.w) X.A X.env xe → WSs (X.tr pn xe) body D σ H)
    (hg : Gl X x := by rfl) (hl : X.env.kindOf n = some .local := by rfl) (hdb : (x == ("__debug__" : Str)) = false := by decide) (hs : X.stack = X.env :: X.outer := by rfl) (hf : X.env.frame = some X.env.locals := by rfl) :
    WS X (.Try body [.ExceptHandler (some (.Name x np)) (some n) (b0 :: suite) pos'] [] [] pos) D σ H :=
  .of (ps_try_as hs hf hN hi hl (c := c) ⟨hg, hdb, .inl hx⟩ cn.tk (tb := tBody X body) (ts := tSuite X (b0 :: suite))
    (fun W1 pn xe tk po => ⟨fun pins s σ H1 D1 I ⟨H, D, x, w, k⟩ => thn (w pn xe tk po H1 x pins s I) fun u s' q => SP.le k q⟩)
    (fun a oe cls d pn hz hf => ⟨fun pins s σ H1 D1 I ⟨H, D, x, w, k⟩ => thn (w oe pn hz hf H1 x pins s I) fun u s' q => SP.le k q⟩))
    fun H1 x1 => ⟨H, D, x1, fun pn xe tk po => h pn xe (cn.tr (tk.imp fun cls d σ H2 ⟨H3, x3, b, e, y, no⟩ => ⟨b, e, fun hb a _ => ⟨H3, _, x3, y hb a, ⟨fun _ _ q => q, fun _ _ q => q, fun _ _ q => q, fun _ _ q => q⟩⟩, fun hb => cn.wu _ _ _ _ _ (no hb) x3⟩)
      fun c d σ H ⟨H2, x2, H3, x3, q⟩ => ⟨H3, x3.trans x2, q⟩) po, EndsLe.rfl⟩
theorem ws_tryO (cn : Cn X W k) (hx : X.mg x = some c) (h : ∀ pn xe, Cn (X.tr pn xe) (upW (wishO X c (b0 :: suite) W D)) k → PassesOwn (model X.prog X.w) X.A X.env xe → WSs (X.tr pn xe) body D σ H)
    (hg : Gl X x := by rfl) (hdb : (x == ("__debug__" : Str)) = false := by decide) (hs : X.stack = X.env :: X.outer := by rfl) (hf : X.env.frame = some X.env.locals := by rfl) :
    WS X (.Try body [.ExceptHandler (some (.Name x np)) none (b0 :: suite) pos'] [] [] pos) D σ H :=
  .of (ps_try_only hs hf (c := c) ⟨hg, hdb, .inl hx⟩ cn.tk (tb := tBody X body) (ts := tSuite X (b0 :: suite))
    (fun W1 pn xe tk po => ⟨fun pins s σ H1 D1 I ⟨H, D, x, w, k⟩ => thn (w pn xe tk po H1 x pins s I) fun u s' q => SP.le k q⟩)
    (fun a oe cls d pn hz hf => ⟨fun pins s σ H1 D1 I ⟨H, D, x, w, k⟩ => thn (w oe pn hz hf H1 x pins s I) fun u s' q => SP.le k q⟩))
    fun H1 x1 => ⟨H, D, x1, fun pn xe tk po => h pn xe (cn.tr (tk.imp fun cls d σ H2 ⟨H3, x3, b, e, y, no⟩ => ⟨b, e, fun hb a _ => ⟨H3, _, x3, y hb a, EndsLe.rfl⟩, fun hb => cn.wu _ _ _ _ _ (no hb) x3⟩)
      fun c d σ H ⟨H2, x2, H3, x3, q⟩ => ⟨H3, x3.trans x2, q⟩) po, EndsLe.rfl⟩
/-- isinstance(e, C) of the error that the suite holds -/
theorem ec_isE {a E : Addr} {oe : Obj} {pn : List (Addr × Obj)} {cv : V} {u : Value} {b : Bool} {H : Hp} (T : ExcC X.K E) (hz : Zc (.ref E) none oe) (hf : ∃ vs, oe.data = .fields vs) (hc : RelV cv u) (hu : ∀ w, RelV cv w → w = u) (hk : PySem.W.kitOne X.K (.ref E) u = some b) :
    EC (X.suite a ((a, oe) :: pn)) (.builtin "isinstance") [.ref a, cv] H (.bl b) := ec_of (call_isE T hz hf) fun _ _ _ q => ⟨cv, u, b, rfl, hu, hk, q⟩
end

/-! ## the law's end -/
section
variable {P : Program} {w : World} {K : PySem.W.Frag} {mg mb : Str → Option Value} {k : Nat} {fa a : Addr} {fd : FuncData} {x : Str} {sp : Sp} {s : Shared} {vs : List Value} {ns : List Int}
/-- from an abstract heap that tracks nothing but the script -/
theorem end_from (KX : K.In s.heap) (hns : s.heap.Ns mainGlobals mg) (hb : s.heap.Ns builtinsNs mb) (hbb : ∀ x : Str, x ≠ "__name__" → mb x = bootBuiltins x) (hlim : s.heap.NoLimit) (hg : s.gens = #[])
    (ha : s.heap.get? a = some { cls := .type "list", data := .seq vs.toArray }) (hr : Room k callerA) (F : ∀ base : Heap, FnG P w K mg base k fa fd [x] sp) (hbind : ∀ (s : Shared) (u : Value), BindsTo s fd ⟨[u], []⟩ [(x, u)])
    (H : Hp) (hO : Only H) (hok : HOk P w H s.heap) (hA : ∀ b, H b ≠ none → b = a) (hK : H a ≠ none → K.lookup a = none) (hsp : sp [.ref a] H (fun v _ => v = .bl true) fun _ _ _ => False) :
    codeAny (model P w) callerA (.call (.ref fa) ⟨[.ref a], []⟩) (fun r s' => r = .ok (.ret (.bool true)) ∧ OldK s.heap s'.heap ∧ s'.os = s.os ∧ AllBare s'.gens) s := by
  have notDict : ∀ {b : Addr} {o : Obj} {es : Array DictEntry} {ep : Nat}, s.heap.get? b = some o → o.data = .dict es ep → H b = none := by
    intro b o es ep e d
    cases q : H b with
    | none => rfl
    | some u =>
      obtain rfl : b = a := hA b (by rw [q]; simp)
      rw [ha] at e; cases e; cases d
  have ns1 : ∀ {b : Addr} {m : Str → Option Value}, s.heap.Ns b m → (hidT s.heap H).Ns b m := fun ⟨o, es, ep, e, d, r⟩ => ⟨o, es, ep, hidT_get e (notDict e d), d, r⟩
  have KB : K.In (hidT s.heap H) := by
    intro b o e
    refine hidT_get (KX b o e) ?_
    cases q : H b with
    | none => rfl
    | some u =>
      obtain rfl : b = a := hA b (by rw [q]; simp)
      rw [hK (by rw [q]; simp)] at e; cases e
  have e0 : Env0 P w K mg (hidT s.heap H) callerA [] s H :=
    ⟨rfl, ⟨KB, ns1 hns, ⟨mb, ns1 hb, hbb⟩, by obtain ⟨mc, h1, h2⟩ := hlim; exact ⟨mc, ns1 h1, h2⟩⟩, fun b o e => of_hidT e, Nat.le_of_eq (hidT_size _ _), trivial, (fun b z => by cases z), hok, .of_eq hg⟩
  refine codeAny_mono ((F _).run callerA [] s H ⟨[.ref a], []⟩ [.ref a] [.ref a] H _ _ hr rfl e0 (hbind s (.ref a)) (.cons rfl .nil) (Ex.refl H) hsp) fun r s' h => ?_
  rcases r with er | fl
  · obtain ⟨_, _, _, _, _, _, _, _, _, _, _, _, H2, _, z⟩ := h
    exact z.elim
  · cases fl with
    | ret u =>
      obtain ⟨v, H', os, bare, un, hok', rv, H2, _, q⟩ := h
      subst q
      obtain rfl : u = Value.bool true := rv
      refine ⟨rfl, OldK.of_keep fun b o e => ?_, os, bare⟩
      rcases hO b with z | ⟨ob, xs, z⟩
      · exact un.keep b o e z (by intro q; cases q) (by simp)
      · have e1 := (hok b _ z).1
        have e2 := (hok' b _ (un.frzs b ob _ z)).1
        rw [e] at e1; cases e1
        exact e2
    | _ => exact h.elim
theorem end_call (KX : K.In s.heap) (hns : s.heap.Ns mainGlobals mg) (hb : s.heap.Ns builtinsNs mb) (hbb : ∀ x : Str, x ≠ "__name__" → mb x = bootBuiltins x) (hlim : s.heap.NoLimit) (hg : s.gens = #[])
    (ha : s.heap.get? a = some { cls := .type "list", data := .seq vs.toArray }) (hi : IntsAre vs ns) (hl : ns.length ≤ sizeLine) (hr : Room k callerA) (F : ∀ base : Heap, FnG P w K mg base k fa fd [x] sp) (hbind : ∀ (s : Shared) (u : Value), BindsTo s fd ⟨[u], []⟩ [(x, u)])
    (hsp : ∀ H : Hp, Only H → SqL K H a (ns.map V.int) → sp [.ref a] H (fun v _ => v = .bl true) fun _ _ _ => False) :
    codeAny (model P w) callerA (.call (.ref fa) ⟨[.ref a], []⟩) (fun r s' => r = .ok (.ret (.bool true)) ∧ OldK s.heap s'.heap ∧ s'.os = s.os ∧ AllBare s'.gens) s := by
  have rv := vals_ints hi
  have lv := hi.length
  cases q : K.lookup a with
  | some o =>
    have e := KX a o q
    rw [ha] at e; cases e
    refine end_from KX hns hb hbb hlim hg ha hr F hbind (fun _ => none) (fun _ => .inl rfl) (fun b u z => by cases z) (fun b z => absurd rfl z) (fun z => absurd rfl z) (hsp _ (fun _ => .inl rfl) (.inr ⟨_, vs.toArray, _, q, rfl, rfl, rfl, ?_, by simpa using rv⟩))
    rw [List.size_toArray, lv]
    exact hl
  | none =>
    let ob : Obj := { cls := .type "list", data := .seq vs.toArray }
    let H : Hp := fun b => if b = a then some (.frz ob (.lst (ns.map V.int))) else none
    have hO : Only H := fun b => by
      by_cases e : b = a
      · exact .inr ⟨ob, _, if_pos e⟩
      · exact .inl (if_neg e)
    have hA : ∀ b, H b ≠ none → b = a := fun b z => Classical.byContradiction fun e => z (if_neg e)
    refine end_from KX hns hb hbb hlim hg ha hr F hbind H hO (fun b u z => ?_) hA (fun _ => q) (hsp H hO (.inl (.inr ⟨ob, if_pos rfl⟩)))
    obtain rfl := hA b (by rw [z]; simp)
    have z1 : some (HO.frz ob (.lst (ns.map V.int))) = some u := (if_pos rfl).symm.trans z
    cases z1
    exact ⟨ha, by rw [List.length_map]; exact hl, vs, _, rv, ha⟩
/-- the goal that k_head leaves, from the law's promise (the script's bits told) -/
theorem walk_end {l : PySem.W.OpenLaw} {n k : Nat} {q : Program} {loose : List Str} {XP : (Str → Option Value) → Heap → Prop} {YP : World → Heap → Prop} {d : DefRec} {K : Params → PySem.W.Frag} {sp : World → Sp} {x : Str}
    (hn : l.most = some n) (hn2 : n ≤ sizeLine) (hdf : d.params.defaults = []) (hr : Room k callerA) (hY : ∀ (w : World) (h : Heap), YP w h → (K w.params).In h)
    (F : ∀ (w : World) (mg : Str → Option Value) (fa : Addr) (h : Heap), (K w.params).In h → h.Ns mainGlobals mg → mg d.name = some (.ref fa) →
      ∃ fd : FuncData, (∀ (s : Shared) (u : Value), BindsTo s fd ⟨[u], []⟩ [(x, u)]) ∧ ∀ base : Heap, FnG l.prog w (K w.params) mg base k fa fd [x] (sp w))
    (hsp : ∀ (w : World) (H : Hp) (a : Addr) (ns : List Int), ns.length ≤ n → (∀ z ∈ ns, Builtin.Int.intBits z ≤ 1048576) → Only H → SqL (K w.params) H a (ns.map V.int) → sp w [.ref a] H (fun v _ => v = .bl true) fun _ _ _ => False) :
    PySem.W.WalkO q loose XP YP l.row.toRowW d [] (fun f vs => PySem.call f vs) := by
  refine Att.attach_callB hn hdf fun w s0 s1 mg mb fa o pm cd doc a vs ns G Y ho hd hcd hmg hobj hints hlen hbits hg => ?_
  obtain ⟨fd, hb, hF⟩ := F w mg fa _ (hY w _ Y) G.T.g hmg
  exact end_call (hY w _ Y) G.T.g G.T.b G.T.builtins G.T.nolimit hg hobj hints (Nat.le_trans hlen hn2) hr hF hb fun H hO hS => hsp w H a ns hlen hbits hO hS
end
/-! ## what a value's class is -/
inductive Ty (H : Hp) : V → String → Prop
  | non : Ty H .non "NoneType"
  | bl (b : Bool) : Ty H (.bl b) "bool"
  | int (i : Int) : Ty H (.int i) "int"
  | str (s : Str) : Ty H (.str s) "str"
  | lst {p : Addr} {xs : List V} (h : H p = some (.lst xs)) : Ty H (.ref p) "list"
  | tup {p : Addr} {xs : List V} (h : H p = some (.tup xs)) : Ty H (.ref p) "tuple"
  | dct {p : Addr} {xs : List (Key × V)} (h : H p = some (.dK xs)) : Ty H (.ref p) "dict"
theorem Ty.ex {H H' : Hp} (x : Ex H H') : ∀ {v : V} {T : String}, Ty H v T → Ty H' v T
  | _, _, .non => .non
  | _, _, .bl b => .bl b
  | _, _, .int b => .int b
  | _, _, .str b => .str b
  | _, _, .lst h => .lst (x _ _ h)
  | _, _, .tup h => .tup (x _ _ h)
  | _, _, .dct h => .dct (x _ _ h)
theorem Ty.x {K : PySem.W.Frag} {H : Hp} : ∀ {v : V} {T : String}, Ty H v T → TyX K H v (.type T)
  | _, _, .non => .base .non
  | _, _, .bl b => .base (.bl b)
  | _, _, .int b => .base (.int b)
  | _, _, .str b => .base (.str b)
  | _, _, .lst h => .base (.lst h)
  | _, _, .tup h => .base (.tup h)
  | _, _, .dct h => .base (.dK h)
def tyIs (T U : String) : Bool := T == U || (T == "bool" && U == "int")
theorem kit_is {H : Hp} {v : V} {T U : String} (ht : Ty H v T) (hU : U = "int" ∨ U = "bool" ∨ U = "str" ∨ U = "list" ∨ U = "tuple" ∨ U = "dict") : kitB T U = some (tyIs T U) := by
  cases ht <;> rcases hU with rfl | rfl | rfl | rfl | rfl | rfl <;> decide +kernel
theorem ec_isT {X : Cx} {H : Hp} {v : V} {T U : String} (ht : Ty H v T) (hU : U = "int" ∨ U = "bool" ∨ U = "str" ∨ U = "list" ∨ U = "tuple" ∨ U = "dict") : EC X (.builtin "isinstance") [v, .ty U] H (.bl (tyIs T U)) :=
  ec_of call_isi fun _ x _ q => ⟨v, .ty U, _, _, _, rfl, .ty U, (ht.ex x).x, kit_ty (kit_is ht hU), q⟩
theorem ev_ty {X : Cx} {σ : St} {H : Hp} {pos : Pos} {n : Str} {T : String} (hm : X.mg n = none) (hv : bootBuiltins n = some (.type T)) (hg : Gl X n := by rfl) (hn : n ≠ "__name__" := by decide) (hd : (n == ("__debug__" : Str)) = false := by decide) : EV X (.Name n pos) σ H (.ty T) := ev_bltn hm hv rfl hg hn hd
def isInt : V → Bool
  | .int _ => true
  | _ => false
theorem Ty.int_is {H : Hp} {v : V} {T : String} (h : Ty H v T) : (tyIs T "int" && !tyIs T "bool") = isInt v := by cases h <;> rfl

/-! ## ends, forgetting -/
section
variable {X : Cx} {e : Expr} {sts : List Stmt} {σ : St} {H H1 H' : Hp} {D : Ends} {pos : Pos} {Q : VK} {v : V} {p q : Addr} {o u : HO}
theorem ws_retF (h : WE X e σ H fun v H1 => ∃ H', Ex H' H1 ∧ D.rt v H') : WS X (.Return (some e) pos) D σ H := ws_ret h.forget
theorem ws_retE (h : EV X e σ H v) (q : ∃ H', Ex H' H ∧ D.rt v H') : WS X (.Return (some e) pos) D σ H := ws_retF (h.we q)
theorem WSs.forget (x : Ex H H') (h : WSs X sts D σ H) : WSs X sts D σ H' := fun H1 x1 => h H1 (x.trans x1)
theorem wss_nilF (h : ∃ H', Ex H' H ∧ D.nx σ H') : WSs X [] D σ H := by
  obtain ⟨H', x, q⟩ := h
  exact WSs.forget x (wss_nil q)
theorem exput (x : Ex H H') (h : H' p = some o) : Ex (upd H p o) H' := fun a u ha => by
  by_cases e : a = p
  · subst e; rw [upd_same] at ha; rw [h]; exact ha
  · rw [upd_ne e] at ha; exact x a u ha
theorem upd_id (h : H p = some o) : upd H p o = H := by
  funext a
  by_cases e : a = p
  · subst e; rw [upd_same, h]
  · rw [upd_ne e]
theorem hp_ne (n : H p = none) (h : H q = some u) : upd H p o q = some u := Ex.put n _ _ h

/-- all but one object is as it was -/
def ExB (p : Addr) (H H' : Hp) : Prop := ∀ a o, a ≠ p → H a = some o → H' a = some o
theorem ExB.refl : ExB p H H := fun _ _ _ h => h
theorem ExB.set {o : HO} (x : ExB p H H') : ExB p H (upd H' p o) := fun a u n h => by rw [upd_ne n]; exact x a u n h
theorem ExB.new {q : Addr} {o : HO} (x : ExB p H H') (n : H' q = none) : ExB p H (upd H' q o) := fun a u ne h => hp_ne n (x a u ne h)
theorem ExB.ex (x : ExB p H H') (h : H p = some o) : Ex H (upd H' p o) := fun a u ha => by
  by_cases e : a = p
  · subst e; rw [upd_same, ← h, ha]
  · rw [upd_ne e]; exact x a u e ha
theorem lenle {xs : List V} (h : Nat.ble xs.length 100000 = true) : xs.length ≤ 100000 := Nat.le_of_ble_eq_true h

/-! ## an object by what stays true of it -/
/-- the drawing pot: two ints, the first one not negative, the second one small -/
def PotOk (a b : Int) : Prop := 0 ≤ a ∧ 0 ≤ b ∧ b < 2147483648
def PotAt (p : Addr) (h : Heap) : Prop := ∃ (a b : Int) (t u : Tok) (n : Nat), PotOk a b ∧ h.get? p = some { cls := .type "list", data := .seq [Value.int a t, Value.int b u].toArray n }
def pot (p : Addr) : HO := .ext (PotAt p)
theorem pot_ok {P : Program} {w : World} {H : Hp} {h : Heap} {a b : Int} (ok : PotOk a b) (x : ObjOk P w H h p (.lst [.int a, .int b])) (H2 : Hp) : ObjOk P w H2 h p (pot p) := by
  obtain ⟨_, its, n, r, e⟩ := x
  cases r with
  | cons r1 r2 =>
    cases r2 with
    | cons r2 r3 =>
      cases r3
      obtain ⟨t, rfl⟩ := r1
      obtain ⟨u, rfl⟩ := r2
      exact ⟨⟨a, b, t, u, n, ok, e⟩, ⟨_, e⟩, fun h1 h2 ⟨a, b, t, u, n, ok, e⟩ k => ⟨a, b, t, u, n, ok, k _ e⟩⟩
theorem pot_open {X : Cx} {pins : List (Addr × Obj)} {s : Shared} (I : Inv X pins σ H s) (h : H p = some (pot p)) : ∃ a b, PotOk a b ∧ Inv X pins σ (upd H p (.lst [.int a, .int b])) s := by
  obtain ⟨⟨a, b, t, u, n, ok, e⟩, _, _⟩ := I.hok p _ h
  exact ⟨a, b, ok, I.write (x := p) (e := p) (h' := s.heap) (t' := s.toks) (by rw [h]; trivial) (.inl rfl) (fun _ _ _ q => q) ⟨_, e⟩ ⟨by show 2 ≤ sizeLine; decide, _, n, .cons ⟨t, rfl⟩ (.cons ⟨u, rfl⟩ .nil), e⟩⟩
theorem pot_close {X : Cx} {pins : List (Addr × Obj)} {s : Shared} {a b : Int} (I : Inv X pins σ H s) (h : H p = some (.lst [.int a, .int b])) (ok : PotOk a b) : Inv X pins σ (upd H p (pot p)) s := by
  have z := I.hok p _ h
  obtain ⟨_, its, n, r, e⟩ := id z
  exact I.write (x := p) (e := p) (h' := s.heap) (t' := s.toks) (by rw [h]; trivial) (.inl rfl) (fun _ _ _ q => q) ⟨_, e⟩ (pot_ok ok z _)
/-- open the pot ahead of a block -/
theorem wss_pot (h : H p = some (pot p)) (k : ∀ a b, PotOk a b → WSs X sts D σ (upd H p (.lst [.int a, .int b]))) : WSs X sts D σ H := fun H1 x pins s I => by
  obtain ⟨a, b, ok, I2⟩ := pot_open I (x _ _ h)
  exact k a b ok _ (x.set p _) pins s I2
/-- close it behind a value -/
theorem we_pot (h : WE X e σ H fun v H2 => ∃ p a b, H2 p = some (.lst [.int a, .int b]) ∧ PotOk a b ∧ Q v (upd H2 p (pot p))) : WE X e σ H Q := fun H1 x pins s I =>
  thn (h H1 x pins s I) fun u s' ⟨v, H2, I2, r, H3, x3, p, a, b, hp, ok, q⟩ => ⟨v, _, pot_close I2 (x3 _ _ hp) ok, r, _, x3.set p _, q⟩
theorem pot_end {H2 : Hp} {a b : Int} (hp : H p = some (pot p)) (x : ExB p H H2) (h2 : H2 p = some (.lst [.int a, .int b])) (ok : PotOk a b) (q : Q v H) : ∃ p a b, H2 p = some (.lst [.int a, .int b]) ∧ PotOk a b ∧ ∃ H', Ex H' (upd H2 p (pot p)) ∧ Q v H' :=
  ⟨p, a, b, h2, ok, H, x.ex hp, q⟩
end
/-! ## sizes -/
theorem mul_okL {i j : Int} (h : -1000000000000000000 < i) (h2 : i < 1000000000000000000) : CMul i j := .inl ⟨by omega, by omega⟩
theorem mul_okR {i j : Int} (h : -1000000000000000000 < j) (h2 : j < 1000000000000000000) : CMul i j := .inr ⟨by omega, by omega⟩
theorem pow_ok {i j : Int} (h : 0 ≤ j) (h2 : j ≤ 1000000) (h3 : -1000000000000000000 < i) (h4 : i < 1000000000000000000) : CPow i j := ⟨h, h2, by omega⟩
theorem big_lt {i : Int} (h : -10000000000000000000000000000000000000000000000000000000000000000000000000000000000000000000000000000 ≤ i) (h2 : i ≤ 10000000000000000000000000000000000000000000000000000000000000000000000000000000000000000000000000000) : i.natAbs < 2 ^ 400 := Nat.lt_of_le_of_lt (show i.natAbs ≤ (10000000000000000000000000000000000000000000000000000000000000000000000000000000000000000000000000000:Int).toNat by show _ ≤ 10000000000000000000000000000000000000000000000000000000000000000000000000000000000000000000000000000; omega) (by decide +kernel)
theorem fdiv_ok {i j : Int} (h : 0 < j) (h2 : j ≤ 10000000000000000000000000000000000000000000000000000000000000000000000000000000000000000000000000000) : CDivW i j := wide_div (b := 400) h (big_lt (by omega) h2) (by decide) (by decide)
def DigOk (m : Int) : Prop := 0 < m ∧ m ≤ 10000000000000000000000000000000000000000000000000000000000000000000000000000000000000000000000000000
theorem dig_div {a m : Int} (h : DigOk m) : CDivP a m := ⟨h.1, PyProof.noPylong_of_log2 (fdiv_ok (i := a) h.1 h.2).2⟩
theorem shl_fits {i j : Int} (h : 0 ≤ j) (h2 : j ≤ 1000000) (h3 : -10000000000000000000000000000000000000000000000000000000000000000000000000000000000000000000000000000 ≤ i) (h4 : i ≤ 10000000000000000000000000000000000000000000000000000000000000000000000000000000000000000000000000000) : CShl i j := by
  obtain ⟨n, rfl⟩ := Int.eq_ofNat_of_zero_le h
  exact shl_ok (n := 400) (big_lt h3 h4) (by omega)
section
variable {X : Cx} {W : WX} {tg iter a : Expr} {body sts : List Stmt} {σ : St} {H : Hp} {D : Ends} {pos pos' p : Pos} {xs : List V} {q : Addr} {v : V}
theorem WG.mono {R R1 : St → Hp → Prop} (w : WG X tg v σ H R) (k : ∀ σ' H', R σ' H' → R1 σ' H') : WG X tg v σ H R1 := fun H1 x pins s u I r =>
  thn (w H1 x pins s u I r) fun _ s' ⟨σ', H2, I2, H3, x3, q⟩ => ⟨σ', H2, I2, H3, x3, k _ _ q⟩
/-- a turn's ends, the heap as it was -/
def endsAt (Pv : St → Prop) (H : Hp) (D : Ends) : Ends := { nx := fun σ' H' => Ex H H' ∧ Pv σ', ct := fun σ' H' => Ex H H' ∧ Pv σ', rt := D.rt, bk := D.nx }
theorem endsAt_le {Pv : St → Prop} : EndsLe (endsAt Pv H D) (upD { nx := fun σ' H' => H' = H ∧ Pv σ', ct := fun σ' H' => H' = H ∧ Pv σ', rt := D.rt, bk := D.nx }) :=
  ⟨fun _ _ ⟨_, x, y, p⟩ => ⟨H, y.trans x, rfl, p⟩, fun _ _ q => q, fun _ _ q => q, fun _ _ ⟨_, x, y, p⟩ => ⟨H, y.trans x, rfl, p⟩⟩
/-- for .. in a list, the heap of each turn forgotten -/
theorem ws_eachL (tk : Tk X W) (hl : EV X iter σ H (.ref q)) (hx : SqL X.K H q xs) (Pv : Nat → St → Prop) (h0 : Pv 0 σ)
    (turn : ∀ i x σ', xs[i]? = some x → Pv i σ' → WG X tg x σ' H fun σ2 H2 => WSs X body (endsAt (Pv (i + 1)) H D) σ2 H2)
    (done : ∀ σ', Pv xs.length σ' → D.nx σ' H) (hc : X.calm = true := by rfl) (hs : ∀ x, foldedSetIterable iter X.env x = pure x := by intro _; rfl) : WS X (.For tg iter body [] pos) D σ H :=
  ws_forL tk hl hx (fun i σ' H' => H' = H ∧ Pv i σ') ⟨rfl, h0⟩ (fun _ _ _ _ p => p.1 ▸ hx) (fun i x σ' H' hi p => by
    obtain ⟨rfl, p⟩ := p
    exact (turn i x σ' hi p).mono fun σ2 H2 w => w.le endsAt_le) (fun σ' H' p => by
    obtain ⟨rfl, p⟩ := p
    exact done _ p) hc hs
theorem ws_eachT (tk : Tk X W) (hl : EV X iter σ H (.ref q)) (hx : SqT X.K H q xs) (Pv : Nat → St → Prop) (h0 : Pv 0 σ)
    (turn : ∀ i x σ', xs[i]? = some x → Pv i σ' → WG X tg x σ' H fun σ2 H2 => WSs X body (endsAt (Pv (i + 1)) H D) σ2 H2)
    (done : ∀ σ', Pv xs.length σ' → D.nx σ' H) (hc : X.calm = true := by rfl) (hs : ∀ x, foldedSetIterable iter X.env x = pure x := by intro _; rfl) : WS X (.For tg iter body [] pos) D σ H :=
  ws_forT tk hl hx (fun i σ' H' => H' = H ∧ Pv i σ') ⟨rfl, h0⟩ (fun _ _ _ _ p => p.1 ▸ hx) (fun i x σ' H' hi p => by
    obtain ⟨rfl, p⟩ := p
    exact (turn i x σ' hi p).mono fun σ2 H2 w => w.le endsAt_le) (fun σ' H' p => by
    obtain ⟨rfl, p⟩ := p
    exact done _ p) hc hs
theorem ws_eachR {n : Int} (tk : Tk X W) (hm : X.mg "range" = none) (ha : EV X a σ H (.int n)) (hn : n ≤ 1000000) (hn0 : -1000000 ≤ n) (Pv : Nat → St → Prop) (h0 : Pv 0 σ)
    (turn : ∀ (i : Nat) σ', (i : Int) < n → Pv i σ' → WG X tg (.int i) σ' H fun σ2 H2 => WSs X body (endsAt (Pv (i + 1)) H D) σ2 H2)
    (done : ∀ σ', Pv n.toNat σ' → D.nx σ' H) (hc : X.calm = true := by rfl) (hg : Gl X "range" := by rfl) (hse : starEach [a] X.env = [(false, eval a X.env)] := by rfl) (hs : ∀ x, foldedSetIterable (.Call (.Name "range" p) [a] [] pos') X.env x = pure x := by intro _; rfl) :
    WS X (.For tg (.Call (.Name "range" p) [a] [] pos') body [] pos) D σ H :=
  ws_forR tk hm ha hn hn0 (fun i σ' H' => H' = H ∧ Pv i σ') ⟨rfl, h0⟩ (fun i σ' H' hi p => by
    obtain ⟨rfl, p⟩ := p
    exact (turn i σ' hi p).mono fun σ2 H2 w => w.le endsAt_le) (fun σ' H' p => by
    obtain ⟨rfl, p⟩ := p
    exact done _ p) hc hg hse hs
/-- a fact of the heap as it stands -/
theorem wss_have (p : Hp → Prop) (h : p H) (k : p H → WSs X sts D σ H) : WSs X sts D σ H := k h
end
/-- a def's promise at its own place (for the law itself) -/
theorem Def.fng {P : Program} {w : World} {K : PySem.W.Frag} {mg : Str → Option Value} {base : Heap} {n : Str} {st : Stmt} {ps N : List Str} {k : Nat} {sp : Sp} (d : Def K mg n st ps) (S : FnScope N ps (defScope st)) (len : ∀ vs H Q E, sp vs H Q E → vs.length = ps.length)
    (body : ∀ (cd : Value) (A : Around) (outer : List Env) (s : Shared) (H1 : Hp) (E1 : XK) (W : WX) (vs : List V) (H : Hp) (Q : VK) (E : XK), Cn (fx P w K mg base N n st d.f cd A outer s H1 E1) W k → Own (fx P w K mg base N n st d.f cd A outer s H1 E1) →
      (∀ c d σ H', E c d H' → W c d σ H') → sp vs H Q E → WSs (fx P w K mg base N n st d.f cd A outer s H1 E1) (defBody st) { nx := fun _ H' => Q .non H', rt := Q } (start N vs) H) : FnG P w K mg base (k + 1) d.f d.fd ps sp := fng_of d.F S len body
/-- a def from what the top has written -/
def def_mk {h : Heap} {K : PySem.W.Frag} {mg : Str → Option Value} {n : Str} {st : Stmt} (ps : List Str) (X : K.In h) (G : h.Ns mainGlobals mg) {f : Addr} {oc : Value} {od an : Option Addr} {osl : Array (Option Value)} {kV doc pm cdv ct : Value} (a : PySem.W.nsIn K mainGlobals n = some (some (.ref f)))
    (l : K.lookup f = some ⟨oc, od, .func (PySem.W.fnOf n n (defArgs st) (defBody st) (defScope st) .none kV doc pm an cdv ct), osl⟩) (c : PySem.W.codeIn K cdv n = true) (k : PySem.W.keepIn K (.ref f) = true)
    (b : ∀ us : List Value, us.length = ps.length → bindArgs (PySem.W.fnOf n n (defArgs st) (defBody st) (defScope st) .none kV doc pm an cdv ct) ⟨us, []⟩ = pure (ps.zip us)) : Def K mg n st ps :=
  ⟨f, _, fun_mk (st := st) l c k, PySem.W.mg_of X G a, .all b⟩
/-- the law's def handed to walk_end -/
theorem law_end {l : PySem.W.OpenLaw} {w : World} {K : PySem.W.Frag} {mg : Str → Option Value} {n x : Str} {st : Stmt} {k : Nat} {fa : Addr} {sp : Sp} (d : Def K mg n st [x]) (hfa : mg n = some (.ref fa)) (hb : ∀ us : List Value, us.length = 1 → bindArgs d.fd ⟨us, []⟩ = pure ([x].zip us))
    (F : ∀ base : Heap, FnG l.prog w K mg base k d.f d.fd [x] sp) : ∃ fd : FuncData, (∀ (s : Shared) (u : Value), BindsTo s fd ⟨[u], []⟩ [(x, u)]) ∧ ∀ base : Heap, FnG l.prog w K mg base k fa fd [x] sp := by
  have e := hfa.symm.trans d.g
  cases e
  exact ⟨d.fd, fun s u => .of_eq (hb [u] rfl), F⟩
/-- how often a law draws: max(1, min(m, len)) -/
theorem turns_lt {i : Nat} {l m : Int} (hm : 1 ≤ m) (h : (i : Int) < if (if l < m then l else m) > 1 then (if l < m then l else m) else 1) : (i : Int) < m := by split at h <;> (try split at h) <;> omega
theorem turns_le {l m : Int} (hm : m ≤ 1000000) : (if (if l < m then l else m) > 1 then (if l < m then l else m) else 1) ≤ 1000000 := by split <;> (try split) <;> omega
theorem turns_ge {l m : Int} : -1000000 ≤ (if (if l < m then l else m) > 1 then (if l < m then l else m) else 1) := by split <;> (try split) <;> omega
/-! ## comprehensions -/
theorem Cn.blk {X : Cx} {W : WX} {k : Nat} (c : Cn X W k) (s : Shared) (H : Hp) (scope : Scope) (C : Addr) (cl : List (Str × Addr)) (fp : List Addr) : Cn (X.blk s H scope (compEnvC scope cl C X.env) fp) (fun _ _ _ _ => False) k :=
  ⟨c.room, c.gd, fun u s' ⟨a, B, sI, pins, σ, H, cls, d, e, I, nb, up, sky, na, os, ag, w⟩ => w.elim, fun _ _ _ _ _ z _ => z⟩
section
variable {X : Cx} {tg elt c0 iter : Expr} {ifs : List Expr} {scope : Scope} {own : List (Str × Nat)} {σ : St} {H H1 : Hp} {Q : VK} {D : Ends} {pos spos py : Pos} {xs : List V} {q : Addr} {wi : TI} {tt : TT} {te : TE} {vs : List Nat}
/-- a block's turn as seen from within -/
def InB (X : Cx) (scope : Scope) (p : Cx → Prop) : Prop := ∀ (s : Shared) (H : Hp) (C : Addr) (cl : List (Str × Addr)) (fp : List Addr), p (X.blk s H scope (compEnvC scope cl C X.env) fp)
def gB (X : Cx) (scope : Scope) (tg : Expr) : TG := fun v σ H1 R1 => InB X scope fun Y => tWG Y tg v σ H1 R1
def eB (X : Cx) (scope : Scope) (e : Expr) : TE := fun σ H1 Q1 => InB X scope fun Y => tWE Y e σ H1 Q1
def tB (X : Cx) (scope : Scope) (e : Expr) : TT := fun σ H1 Q1 => InB X scope fun Y => tWT Y e σ H1 Q1
theorem gB_ok (s : Shared) (H : Hp) (C : Addr) (cl : List (Str × Addr)) (fp : List Addr) : PG (X.blk s H scope (compEnvC scope cl C X.env) fp) tg (gB X scope tg) :=
  ⟨fun pins s' σ H' v u R I r h => pg_W.run pins s' σ H' v u R I r (h s H C cl fp)⟩
theorem eB_ok {e : Expr} (s : Shared) (H : Hp) (C : Addr) (cl : List (Str × Addr)) (fp : List Addr) : PE (X.blk s H scope (compEnvC scope cl C X.env) fp) e (eB X scope e) :=
  ⟨fun pins s' σ H' Q I h => pe_W.run pins s' σ H' Q I (h s H C cl fp)⟩
theorem tB_ok {e : Expr} (s : Shared) (H : Hp) (C : Addr) (cl : List (Str × Addr)) (fp : List Addr) : PT (X.blk s H scope (compEnvC scope cl C X.env) fp) e (tB X scope e) :=
  ⟨fun pins s' σ H' Q I h => pt_W.run pins s' σ H' Q I (h s H C cl fp)⟩
abbrev Stp := St → Hp → (Option V → Hp → Prop) → Prop
/-- the turn behind its target: the item, or none where the test says no -/
def St0 (X : Cx) (scope : Scope) (e : Expr) : Stp := fun σ H R => InB X scope fun Y => WE Y e σ H fun y H' => R (some y) H'
def St1 (X : Cx) (scope : Scope) (c e : Expr) : Stp := fun σ H R => InB X scope fun Y => WT Y c σ H fun b H' => if b = true then St0 X scope e σ H' R else R none H'
def StOk (st : Stp) (tt : TT) (te : TE) : Prop := ∀ σ H R, st σ H R → ∀ H1, Ex H H1 → ∀ G : Option V → Hp → Prop, (∀ oy H', (∃ H2, Ex H2 H' ∧ R oy H2) → G oy H') → tt σ H1 fun b H3 => if b = true then te σ H3 fun y H4 => G (some y) H4 else G none H3
theorem st0_ok : StOk (St0 X scope elt) tYes (eB X scope elt) := fun σ H R h H1 x G k => by
  show if true = true then eB X scope elt σ H1 (fun y H4 => G (some y) H4) else G none H1
  rw [if_pos rfl]
  exact fun s H C cl fp => (h s H C cl fp).t x fun _ _ q => k _ _ q
theorem st1_ok : StOk (St1 X scope c0 elt) (tB X scope c0) (eB X scope elt) := fun σ H R h H1 x G k s H0 C cl fp => (h s H0 C cl fp).t x fun b H2 ⟨H3, x3, q⟩ => by
  cases b with
  | true =>
    rw [if_pos rfl] at q
    exact iteT fun s H C cl fp => (q s H C cl fp).t x3 fun _ _ q => k _ _ q
  | false => exact iteF (k _ _ ⟨H3, x3, by simpa using q⟩)
/-- what a comprehension asks, its iterator wi -/
def WL (X : Cx) (scope : Scope) (wi : TI) (tg : Expr) (tt : TT) (te : TE) (vs : List Nat) (σ : St) (H : Hp) (Q : VK) : Prop := ∀ H1, Ex H H1 → tLc wi (gB X scope tg) tt te vs σ H1 (up Q)
theorem we_lc0 (wl : WL X scope wi tg tYes (eB X scope elt) (own.map (·.2)) σ H Q) (hi : PI X tg iter wi) (hN : X.N.Nodup) (ok : blkC X.N X.env.scope scope own = true) (hc : X.calm = true := by rfl) (hs : ∀ x, foldedSetIterable iter X.env x = pure x := by intro _; rfl) :
    WE X (.ListComp elt [⟨tg, iter, [], 0⟩] scope pos) σ H Q := .of (pe_lc hc hN hi (blkOk_by ok) gB_ok (fun _ _ _ _ _ => pts_nil) eB_ok hs) wl
theorem we_lc1 (wl : WL X scope wi tg (tB X scope c0) (eB X scope elt) (own.map (·.2)) σ H Q) (hi : PI X tg iter wi) (hN : X.N.Nodup) (ok : blkC X.N X.env.scope scope own = true) (hc : X.calm = true := by rfl) (hs : ∀ x, foldedSetIterable iter X.env x = pure x := by intro _; rfl) :
    WE X (.ListComp elt [⟨tg, iter, [c0], 0⟩] scope pos) σ H Q := .of (pe_lc hc hN hi (blkOk_by ok) gB_ok (fun s H C cl fp => pts_one (tB_ok s H C cl fp)) eB_ok hs) wl
/-- name = [..] -/
theorem ws_lc0 {i : Nat} {y : Str} (wl : WL X scope wi tg tYes (eB X scope elt) (own.map (·.2)) σ H fun x H1 => D.nx (σ.set i (some x)) H1) (hi : PI X tg iter wi) (hN : X.N.Nodup) (hy : X.N[i]? = some y) (ok : blkC X.N X.env.scope scope own = true) (hyl : X.env.scope.names.lookup y = some .local := by rfl)
    (hsw : swapsWith (.ListComp elt [⟨tg, iter, [], 0⟩] scope pos) (some (.Name y py)) spos.line X.env = pure true := by rfl) (hc : X.calm = true := by rfl) (hs : ∀ x, foldedSetIterable iter X.env x = pure x := by intro _; rfl) :
    WS X (.Assign [.Name y py] (.ListComp elt [⟨tg, iter, [], 0⟩] scope pos) spos) D σ H :=
  .of (ps_setLc hc hN hy hyl hsw hi (blkOk_by ok) gB_ok (fun _ _ _ _ _ => pts_nil) eB_ok hs) fun H1 x => wl H1 x
theorem ws_lc1 {i : Nat} {y : Str} (wl : WL X scope wi tg (tB X scope c0) (eB X scope elt) (own.map (·.2)) σ H fun x H1 => D.nx (σ.set i (some x)) H1) (hi : PI X tg iter wi) (hN : X.N.Nodup) (hy : X.N[i]? = some y) (ok : blkC X.N X.env.scope scope own = true) (hyl : X.env.scope.names.lookup y = some .local := by rfl)
    (hsw : swapsWith (.ListComp elt [⟨tg, iter, [c0], 0⟩] scope pos) (some (.Name y py)) spos.line X.env = pure true := by rfl) (hc : X.calm = true := by rfl) (hs : ∀ x, foldedSetIterable iter X.env x = pure x := by intro _; rfl) :
    WS X (.Assign [.Name y py] (.ListComp elt [⟨tg, iter, [c0], 0⟩] scope pos) spos) D σ H :=
  .of (ps_setLc hc hN hy hyl hsw hi (blkOk_by ok) gB_ok (fun s H C cl fp => pts_one (tB_ok s H C cl fp)) eB_ok hs) fun H1 x => wl H1 x

/-- the list so far -/
def addTo (acc : List V) : Option V → List V
  | some y => acc ++ [y]
  | none => acc
/-- one turn, the heap of the turn forgotten -/
def Turn (X : Cx) (scope : Scope) (tg : Expr) (st : Stp) (vs : List Nat) (σ : St) (H : Hp) (x : V) (acc : List V) (Nx : List V → Prop) : Prop :=
  ∀ d, H d = none → InB X scope fun Y => WG Y tg x (wipe σ vs) (upd H d (.lst acc)) fun σ2 H2 => wipe σ2 vs = wipe σ vs ∧ st σ2 H2 fun oy H3 => Ex (upd H d (.lst acc)) H3 ∧ Nx (addTo acc oy)
theorem Turn.run {st : Stp} (ok : StOk st tt te) {x : V} {acc : List V} {Nx : List V → Prop} (t : Turn X scope tg st vs σ H x acc Nx) {d : Addr} (hd : H d = none) (hz : acc.length < 100000) {H4 : Hp} (x4 : Ex (upd H d (.lst acc)) H4) {G : Hp → Prop}
    (k : ∀ acc' H5, acc'.length ≤ acc.length + 1 → Nx acc' → Ex (upd H d (.lst acc')) H5 → G H5) :
    gB X scope tg x (wipe σ vs) H4 fun σ2 H2 => wipe σ2 vs = wipe σ vs ∧ tt σ2 H2 fun b H3 => if b = true then te σ2 H3 fun y H5 => ∃ acc, H5 d = some (.lst acc) ∧ acc.length < sizeLine ∧ G (upd H5 d (.lst (acc ++ [y]))) else G H3 := fun s H0 C cl fp =>
  (t d hd s H0 C cl fp).t x4 fun σ2 H2 ⟨H3, x3, e, w⟩ => ⟨e, by
    refine ok σ2 H3 _ w H2 x3 (fun oy H5 => match oy with | some y => ∃ acc, H5 d = some (.lst acc) ∧ acc.length < sizeLine ∧ G (upd H5 d (.lst (acc ++ [y]))) | none => G H5) fun oy H5 ⟨H6, x6, x7, n⟩ => ?_
    cases oy with
    | some y =>
      refine ⟨acc, (x7.trans x6) _ _ upd_same, Nat.lt_trans hz (by decide), k (acc ++ [y]) _ (by simp) n ?_⟩
      have z := (x7.trans x6).set d (.lst (acc ++ [y]))
      rw [upd_upd] at z
      exact z
    | none => exact k acc H5 (Nat.le_succ _) n (x7.trans x6)⟩
/-- over a list -/
theorem wl_list {st : Stp} (ok : StOk st tt te) (hl : EV X iter σ H (.ref q)) (hx : SqL X.K H q xs) (hn : xs.length ≤ 100000) (Pv : Nat → List V → Prop) (h0 : Pv 0 []) (turn : ∀ i x acc, xs[i]? = some x → Pv i acc → Turn X scope tg st vs σ H x acc (Pv (i + 1)))
    (done : ∀ ys p, Pv xs.length ys → ys.length ≤ xs.length → H p = none → Q (.ref p) (upd H p (.lst ys))) : WL X scope (iList X.K (tWE X iter)) tg tt te vs σ H Q := fun H1 x =>
  (hl.we (Q := fun v H' => v = .ref q ∧ H' = H) ⟨rfl, rfl⟩).t x fun o H2 ⟨H2', x2, eo, eH⟩ => by
    subst eo; subst eH
    refine ⟨q, rfl, ⟨xs, x2.sqL hx⟩, fun D hD => lc_list (K := X.K) (a := q) (xs := xs) (fun i H4 => ∃ acc, acc.length ≤ i ∧ Pv i acc ∧ Ex (upd H2' D (.lst acc)) H4) ⟨[], Nat.le_refl _, h0, x2.set D _⟩ (fun i H4 hi ⟨acc, _, _, x4⟩ => x4.sqL ((Ex.put (x2.free hD)).sqL hx)) (fun i y H4 hi ⟨acc, ha, p, x4⟩ => ?_) fun H4 ⟨acc, ha, p, x4⟩ => ⟨_, x4, done acc D p ha (x2.free hD)⟩⟩
    have hlt : i < xs.length := (List.getElem?_eq_some_iff.mp hi).1
    exact (turn i y acc hi p).run ok (x2.free hD) (by omega) x4 fun acc' H5 hl n x5 => ⟨acc', by omega, n, x5⟩
theorem wl_tup {st : Stp} (ok : StOk st tt te) (hl : EV X iter σ H (.ref q)) (hx : SqT X.K H q xs) (hn : xs.length ≤ 100000) (Pv : Nat → List V → Prop) (h0 : Pv 0 []) (turn : ∀ i x acc, xs[i]? = some x → Pv i acc → Turn X scope tg st vs σ H x acc (Pv (i + 1)))
    (done : ∀ ys p, Pv xs.length ys → ys.length ≤ xs.length → H p = none → Q (.ref p) (upd H p (.lst ys))) : WL X scope (iTup X.K (tWE X iter)) tg tt te vs σ H Q := fun H1 x =>
  (hl.we (Q := fun v H' => v = .ref q ∧ H' = H) ⟨rfl, rfl⟩).t x fun o H2 ⟨H2', x2, eo, eH⟩ => by
    subst eo; subst eH
    refine ⟨q, rfl, ⟨xs, x2.sqT hx⟩, fun D hD => lc_tup (K := X.K) (a := q) (xs := xs) (fun i H4 => ∃ acc, acc.length ≤ i ∧ Pv i acc ∧ Ex (upd H2' D (.lst acc)) H4) ⟨[], Nat.le_refl _, h0, x2.set D _⟩ (fun i H4 hi ⟨acc, _, _, x4⟩ => x4.sqT ((Ex.put (x2.free hD)).sqT hx)) (fun i y H4 hi ⟨acc, ha, p, x4⟩ => ?_) fun H4 ⟨acc, ha, p, x4⟩ => ⟨_, x4, done acc D p ha (x2.free hD)⟩⟩
    have hlt : i < xs.length := (List.getElem?_eq_some_iff.mp hi).1
    exact (turn i y acc hi p).run ok (x2.free hD) (by omega) x4 fun acc' H5 hl n x5 => ⟨acc', by omega, n, x5⟩
/-- over range(n) -/
theorem wl_rng {st : Stp} {a : Expr} {n : Int} (ok : StOk st tt te) (ha : EA X [a] σ H [.int n]) (hn : n ≤ 100000) (hn0 : -1000000 ≤ n) (Pv : Nat → List V → Prop) (h0 : Pv 0 []) (turn : ∀ (i : Nat) acc, (i : Int) < n → Pv i acc → Turn X scope tg st vs σ H (.int i) acc (Pv (i + 1)))
    (done : ∀ ys p, Pv n.toNat ys → ys.length ≤ n.toNat → H p = none → Q (.ref p) (upd H p (.lst ys))) : WL X scope (iRng1 (tWA X [a])) tg tt te vs σ H Q := fun H1 x =>
  (ha.wa (QA := fun v H' => v = [.int n] ∧ H' = H) ⟨rfl, rfl⟩).t x fun o H2 ⟨H2', x2, eo, eH⟩ => by
    subst eo; subst eH
    refine ⟨n, rfl, by omega, by omega, fun D hD => lc_range (lo := 0) (n := n.toNat) (fun i H4 => ∃ acc, acc.length ≤ i ∧ Pv i acc ∧ Ex (upd H2' D (.lst acc)) H4) ⟨[], Nat.le_refl _, h0, x2.set D _⟩ (fun i H4 hi ⟨acc, ha, p, x4⟩ => ?_) fun H4 ⟨acc, ha, p, x4⟩ => ⟨_, x4, done acc D p ha (x2.free hD)⟩⟩
    rw [Int.zero_add]
    exact (turn i acc (by omega) p).run ok (x2.free hD) (by omega) x4 fun acc' H5 hl n x5 => ⟨acc', by omega, n, x5⟩
theorem wl_rng2 {st : Stp} {a b : Expr} {l n : Int} (ok : StOk st tt te) (ha : EA X [a, b] σ H [.int l, .int n]) (hn : n - l ≤ 100000) (hb : -(2 ^ 62) ≤ l ∧ l < 2 ^ 62 ∧ -(2 ^ 62) ≤ n ∧ n < 2 ^ 62) (Pv : Nat → List V → Prop) (h0 : Pv 0 []) (turn : ∀ (i : Nat) acc, l + (i : Int) < n → Pv i acc → Turn X scope tg st vs σ H (.int (l + i)) acc (Pv (i + 1)))
    (done : ∀ ys p, Pv (n - l).toNat ys → ys.length ≤ (n - l).toNat → H p = none → Q (.ref p) (upd H p (.lst ys))) : WL X scope (iRng2 (tWA X [a, b])) tg tt te vs σ H Q := fun H1 x =>
  (ha.wa (QA := fun v H' => v = [.int l, .int n] ∧ H' = H) ⟨rfl, rfl⟩).t x fun o H2 ⟨H2', x2, eo, eH⟩ => by
    subst eo; subst eH
    refine ⟨l, n, rfl, hb, fun D hD => lc_range (lo := l) (n := (n - l).toNat) (fun i H4 => ∃ acc, acc.length ≤ i ∧ Pv i acc ∧ Ex (upd H2' D (.lst acc)) H4) ⟨[], Nat.le_refl _, h0, x2.set D _⟩ (fun i H4 hi ⟨acc, ha, p, x4⟩ => ?_) fun H4 ⟨acc, ha, p, x4⟩ => ⟨_, x4, done acc D p ha (x2.free hD)⟩⟩
    exact (turn i acc (by omega) p).run ok (x2.free hD) (by omega) x4 fun acc' H5 hl n x5 => ⟨acc', by omega, n, x5⟩
end
/-! ## repr of data -/
mutual
def fits : PyData → Prop
  | .none => True
  | .bool _ => True
  | .int i => i.natAbs < 10 ^ 120
  | .str x => ∀ c ∈ x.cps.toList, c < 4294967296
  | .list xs => fitsAll xs
  | .tuple xs => fitsAll xs
  | .dict _ => False
def fitsAll : List PyData → Prop
  | [] => True
  | x :: xs => fits x ∧ fitsAll xs
end
theorem int_shown {i : Int} (h : i.natAbs < 10 ^ 120) : (PyData.shown (.int i)).length ≤ 130 := by
  have e := int_text_length_le10 (k := 120) (by decide) h
  show (Str.ofString (toString i)).length ≤ 130
  rw [PySem.ofString_length]
  omega
theorem int_log {i : Int} (h : i.natAbs < 10 ^ 120) : i.natAbs.log2 < 1920 := by
  by_cases z : i.natAbs = 0
  · rw [z]; decide
  · exact (Nat.log2_lt z).mpr (Nat.lt_of_lt_of_le h (by decide +kernel))
mutual
theorem fits.short : ∀ d : PyData, fits d → d.leavesShort 130 = true ∧ d.showable = true ∧ d.hasDict = false
  | .none, _ => ⟨by simp only [PyData.leavesShort], by simp only [PyData.showable], by simp only [PyData.hasDict]⟩
  | .bool _, _ => ⟨by simp only [PyData.leavesShort], by simp only [PyData.showable], by simp only [PyData.hasDict]⟩
  | .int i, h => by
    have h : i.natAbs < 10 ^ 120 := by simpa only [fits] using h
    exact ⟨by simp only [PyData.leavesShort]; exact decide_eq_true (int_shown h), by simp only [PyData.showable]; exact decide_eq_true (int_log h), by simp only [PyData.hasDict]⟩
  | .str x, h => by
    have h : ∀ c ∈ x.cps.toList, c < 4294967296 := by simpa only [fits] using h
    exact ⟨by simp only [PyData.leavesShort, List.all_eq_true, decide_eq_true_eq]; exact h, by simp only [PyData.showable], by simp only [PyData.hasDict]⟩
  | .list xs, h => by
    have q := fitsAll.short xs (by simpa only [fits] using h)
    exact ⟨by simp only [PyData.leavesShort]; exact q.1, by simp only [PyData.showable]; exact q.2.1, by simp only [PyData.hasDict]; exact q.2.2⟩
  | .tuple xs, h => by
    have q := fitsAll.short xs (by simpa only [fits] using h)
    exact ⟨by simp only [PyData.leavesShort]; exact q.1, by simp only [PyData.showable]; exact q.2.1, by simp only [PyData.hasDict]; exact q.2.2⟩
  | .dict _, h => by simp only [fits] at h
theorem fitsAll.short : ∀ ds : List PyData, fitsAll ds → PyData.leavesShortAll 130 ds = true ∧ PyData.showableAll ds = true ∧ PyData.hasDictAll ds = false
  | [], _ => ⟨by simp only [PyData.leavesShortAll], by simp only [PyData.showableAll], by simp only [PyData.hasDictAll]⟩
  | d :: ds, h => by
    have h : fits d ∧ fitsAll ds := by simpa only [fitsAll] using h
    have q := fits.short d h.1
    have r := fitsAll.short ds h.2
    exact ⟨by simp only [PyData.leavesShortAll, Bool.and_eq_true]; exact ⟨q.1, r.1⟩, by simp only [PyData.showableAll, Bool.and_eq_true]; exact ⟨q.2.1, r.2.1⟩, by simp only [PyData.hasDictAll, Bool.or_eq_false_iff]; exact ⟨q.2.2, r.2.2⟩⟩
end
/-- data that repr can tell -/
structure RpOk (d : PyData) : Prop where
  f : fits d
  b : d.bulk ≤ 20000
  p : d.depth ≤ 60
theorem RpOk.len {d : PyData} (h : RpOk d) : d.shown.length ≤ 2640130 := by
  have := PyData.shown_le_bulk 130 (by decide) d (fits.short d h.f).1
  have b := h.b
  omega
mutual
theorem Dp.ex {K : PySem.W.Frag} {H H' : Hp} (x : Ex H H') : ∀ {v : V} {d : PyData}, Dp K H v d → Dp K H' v d
  | _, _, .non => .non
  | _, _, .bl b => .bl b
  | _, _, .int i => .int i
  | _, _, .str y => .str y
  | _, _, .lst h a => .lst (x.sqL h) (DpAll.ex x a)
  | _, _, .tup h a => .tup (x.sqT h) (DpAll.ex x a)
theorem DpAll.ex {K : PySem.W.Frag} {H H' : Hp} (x : Ex H H') : ∀ {vs : List V} {ds : List PyData}, DpAll K H vs ds → DpAll K H' vs ds
  | _, _, .nil => .nil
  | _, _, .cons h a => .cons (Dp.ex x h) (DpAll.ex x a)
end
section
variable {X : Cx} {W : WX} {k : Nat} {H : Hp} {v : V} {d : PyData}
def rRepr (K : PySem.W.Frag) : List V → Hp → VK → Prop := fun xs H Q => ∃ v d, xs = [v] ∧ Dp K H v d ∧ RpOk d ∧ Q (.str d.shown) H
theorem call_repr (c : Cn X W k) : CallR X (.builtin "repr") (rRepr X.K) := by
  intro pins s σ H xs us Q I r h
  obtain ⟨v, d, rfl, hd, ok, q⟩ := h
  obtain ⟨u, rfl, ru⟩ := r.one
  obtain ⟨as, rd⟩ := Dp.reads I d v u hd ru
  have z := fits.short d ok.f
  have len : d.shown.length ≤ sizeLine := Nat.le_trans ok.len (by decide)
  have room : X.A.units + (d.depth + 1) < cLine := by
    have := c.room.units
    have := ok.p
    omega
  have fin : ∀ h' t tk, (∀ b o, s.heap.get? b = some o → h'.get? b = some o) → EP X pins σ Q (.str d.shown t) { s with heap := h', toks := tk } := fun h' t tk hk =>
    ⟨.str d.shown, H, I.kept (fun b o e => hk b o e), ⟨t, rfl⟩, q⟩
  cases rd with
  | none => exact PySem.P.repr_of_none (fin s.heap _ _ fun _ _ e => e)
  | bool b => exact PySem.P.repr_of_bool (fin s.heap _ _ fun _ _ e => e)
  | int i t => exact PySem.P.repr_of_int (by simpa [PyData.showable] using z.2.1) (fin s.heap _ _ fun _ _ e => e)
  | str x t => exact PySem.P.repr_of_str (fin s.heap _ _ fun _ _ e => e) (by simpa only [PyData.shown] using len)
  | list h1 h2 h3 h4 => exact repr_of_reads' (.list h1 h2 h3 h4) z.2.1 (PyData.noDict_hsm z.2.2) c.gd room (fun _ _ e => e) fin len
  | tuple h1 h2 h3 h4 => exact repr_of_reads' (.tuple h1 h2 h3 h4) z.2.1 (PyData.noDict_hsm z.2.2) c.gd room (fun _ _ e => e) fin len
  | dict h1 h2 h3 h4 h5 => cases hd
theorem ec_repr (c : Cn X W k) (hd : Dp X.K H v d) (ok : RpOk d) : EC X (.builtin "repr") [v] H (.str d.shown) := ec_of (call_repr c) fun _ x _ q => ⟨v, d, rfl, Dp.ex x hd, ok, q⟩
end

/-! ## methods of lists, + -/
section
variable {X : Cx} {W : WX} {o e : Expr} {es : List Expr} {σ : St} {H : Hp} {Q : VK} {apos cpos : Pos} {l b : Addr} {xs zs : List V} {y : V}
theorem tyL {K : PySem.W.Frag} {H : Hp} {l : Addr} {xs : List V} (h : SqL K H l xs) : tyV K "list" (.ref l) H := .inl ⟨rfl, xs, h⟩
/-- o.append(e): the list may have changed while e was worked out -/
theorem we_append (ho : EV X o σ H (.ref l)) (hl : H l = some (.lst xs)) (he : WE X e σ H fun y H2 => ∃ ys, H2 l = some (.lst ys) ∧ ys.length ≤ 100000 ∧ Q .non (upd H2 l (.lst (ys ++ [y]))))
    (hbase : attributeBase o "append" X.env (eval o X.env) = eval o X.env := by rfl)
    (hfew : ((backTo cpos (starEach [e] X.env)).all (fun x => !x.1) && (backToKw cpos (keywordEach [] X.env)).all (fun x => x.1.isSome)
      && decide ([e].length + ([] : List Keyword).length + (if ([] : List Keyword).isEmpty then 0 else 1) < 30)) = true := by rfl)
    (hline : (apos.endLine == cpos.line) = true := by rfl) (hs : starEach [e] X.env = (false, eval e X.env) :: starEach [] X.env := by rfl) (hplain : (backTo cpos (starEach [] X.env)).any (·.1) = false := by rfl) :
    WE X (.Call (.Attribute o "append" apos) [e] [] cpos) σ H Q :=
  .of (pe_bm PySem.F.plainAttrs_list PySem.F.slot_list_append PySem.F.type_list_append mt_append pe_W (pa_cons pe_W pa_nil hs) hbase hfew hline hs hplain) fun H1 x =>
    (ho.we (Q := fun v H' => v = .ref l ∧ H' = H) ⟨rfl, rfl⟩).t x fun v H2 ⟨H3, x3, ev, eH⟩ => by
      subst ev; subst eH
      refine ⟨tyL (.inl (.inl (x3 _ _ hl))), he.t x3 fun y H4 ⟨H5, x5, ys, hy, hz, q⟩ => ⟨l, ys, y, rfl, rfl, x5 _ _ hy, Nat.lt_of_le_of_lt hz (by decide), _, x5.set l _, q⟩⟩
/-- o.extend(e) -/
theorem we_extend (ho : EV X o σ H (.ref l)) (hl : H l = some (.lst xs)) (he : WE X e σ H fun y H2 => ∃ b ys zs, y = .ref b ∧ H2 l = some (.lst ys) ∧ H2 b = some (.lst zs) ∧ ys.length + zs.length ≤ 1000000 ∧ Q .non (upd H2 l (.lst (ys ++ zs))))
    (hbase : attributeBase o "extend" X.env (eval o X.env) = eval o X.env := by rfl)
    (hfew : ((backTo cpos (starEach [e] X.env)).all (fun x => !x.1) && (backToKw cpos (keywordEach [] X.env)).all (fun x => x.1.isSome)
      && decide ([e].length + ([] : List Keyword).length + (if ([] : List Keyword).isEmpty then 0 else 1) < 30)) = true := by rfl)
    (hline : (apos.endLine == cpos.line) = true := by rfl) (hs : starEach [e] X.env = (false, eval e X.env) :: starEach [] X.env := by rfl) (hplain : (backTo cpos (starEach [] X.env)).any (·.1) = false := by rfl) :
    WE X (.Call (.Attribute o "extend" apos) [e] [] cpos) σ H Q :=
  .of (pe_bm PySem.F.plainAttrs_list PySem.F.slot_list_extend PySem.F.type_list_extend mt_extend pe_W (pa_cons pe_W pa_nil hs) hbase hfew hline hs hplain) fun H1 x =>
    (ho.we (Q := fun v H' => v = .ref l ∧ H' = H) ⟨rfl, rfl⟩).t x fun v H2 ⟨H3, x3, ev, eH⟩ => by
      subst ev; subst eH
      refine ⟨tyL (.inl (.inl (x3 _ _ hl))), he.t x3 fun y H4 ⟨H5, x5, b, ys, zs, ey, hy, hb, hz, q⟩ => ⟨l, b, ys, zs, rfl, by rw [ey], x5 _ _ hy, x5 _ _ hb, Nat.le_trans hz (by decide), _, x5.set l _, q⟩⟩
/-- the sum of two lists is a new list -/
theorem wo_cat (h1 : H l = some (.lst xs)) (h2 : H b = some (.lst zs)) (hz : xs.length + zs.length ≤ 1000000) (q : ∀ p, H p = none → Q (.ref p) (upd H p (.lst (xs ++ zs)))) : WO X (binaryOp .Add) (.ref l) (.ref b) H Q :=
  .of op_cat fun H1 x => ⟨l, b, xs, zs, rfl, rfl, x _ _ h1, x _ _ h2, Nat.le_trans hz (by decide), fun p hp => ⟨_, x.set p _, q p (x.free hp)⟩⟩
theorem ec_intB {k : Bool} : EC X (.type "int") [.bl k] H (.int (if k = true then 1 else 0)) := ec_of call_int1 fun _ _ _ q => .inr ⟨k, rfl, q⟩
theorem ec_intI {i : Int} : EC X (.type "int") [.int i] H (.int i) := ec_of call_int1 fun _ _ _ q => .inl ⟨i, rfl, q⟩
section
variable {D : Ends} {i j l : Nat} {x y z : Str} {a b c : Expr} {px py pz pt pos : Pos} {kt k2 pt2}
/-- a, b = x, y -/
theorem ws_par (hN : X.N.Nodup) (hi : X.N[i]? = some x) (hj : X.N[j]? = some y) (ha : WA X [a, b] σ H fun vs H1 => ∃ v w, vs = [v, w] ∧ D.nx ((σ.set i (some v)).set j (some w)) H1) (hij : i ≠ j := by decide) (hc : X.calm = true := by rfl)
    (hx : X.env.scope.names.lookup x = some .local := by rfl) (hy : X.env.scope.names.lookup y = some .local := by rfl)
    (hw : swappedStores [.Tuple [.Name x px, .Name y py] kt pt] (.Tuple [a, b] k2 pt2) X.env = pure (some [x, y]) := by rfl)
    (hs : swapsWithSole [.Tuple [.Name x px, .Name y py] kt pt] (.Tuple [a, b] k2 pt2) pos.line X.env = pure false := by rfl) :
    WS X (.Assign [.Tuple [.Name x px, .Name y py] kt pt] (.Tuple [a, b] k2 pt2) pos) D σ H :=
  .of (ps_par hc hN hi hj hij hx hy pa_W hw hs) fun H1 x1 => ha.t x1 fun vs H2 ⟨H3, x3, v, w, e, q⟩ => ⟨v, w, e, H3, x3, q⟩
theorem ws_par3 (hN : X.N.Nodup) (hi : X.N[i]? = some x) (hj : X.N[j]? = some y) (hl : X.N[l]? = some z) (ha : WA X [a, b, c] σ H fun vs H1 => ∃ u v w, vs = [u, v, w] ∧ D.nx (((σ.set i (some u)).set j (some v)).set l (some w)) H1)
    (hij : i ≠ j := by decide) (hil : i ≠ l := by decide) (hjl : j ≠ l := by decide) (hc : X.calm = true := by rfl)
    (hx : X.env.scope.names.lookup x = some .local := by rfl) (hy : X.env.scope.names.lookup y = some .local := by rfl) (hz : X.env.scope.names.lookup z = some .local := by rfl)
    (hw : swappedStores [.Tuple [.Name x px, .Name y py, .Name z pz] kt pt] (.Tuple [a, b, c] k2 pt2) X.env = pure (some [x, y, z]) := by rfl)
    (hs : swapsWithSole [.Tuple [.Name x px, .Name y py, .Name z pz] kt pt] (.Tuple [a, b, c] k2 pt2) pos.line X.env = pure false := by rfl) :
    WS X (.Assign [.Tuple [.Name x px, .Name y py, .Name z pz] kt pt] (.Tuple [a, b, c] k2 pt2) pos) D σ H :=
  .of (ps_par3 hc hN hi hj hl hij hil hjl hx hy hz pa_W hw hs) fun H1 x1 => ha.t x1 fun vs H2 ⟨H3, x3, u, v, w, e, q⟩ => ⟨u, v, w, e, H3, x3, q⟩
end
end
/-! ## sum of bools -/
def b2n (b : Bool) : Int := if b then 1 else 0
theorem b2n_le (b : Bool) : 0 ≤ b2n b ∧ b2n b ≤ 1 := by cases b <;> decide
theorem pre_bools (vl : Nat → Int) (h : ∀ j, 0 ≤ vl j ∧ vl j ≤ 1) : ∀ j : Nat, 0 ≤ preSum vl j ∧ preSum vl j ≤ j
  | 0 => by simp [preSum]
  | j + 1 => by
    have a := pre_bools vl h j
    have b := h j
    simp only [preSum]
    omega
section
variable {prog : Program} {w : World} {A : Around} {R : Result → Shared → Prop} {it : Addr} {fp wr : List Addr} {n : Nat} {P : Nat → Value → Prop} {St : Nat → Heap → Prop}
theorem sumB_loop (Wk : Walks prog w A.in1 it fp wr n P St) (vl : Nat → Int) (h01 : ∀ j, 0 ≤ vl j ∧ vl j ≤ 1) (hn : n ≤ 1000000) (hv : ∀ i v, P i v → ∃ b, v = .bool b ∧ vl i = b2n b) (S : Addr) (hS0 : S ∉ fp) :
    ∀ (k i : Nat) (s : Shared) (ta : Tok) (m : Nat), n - i = k → i ≤ n → St i s.heap → s.heap.get? S = some { cls := .type "list", data := .seq #[.int (preSum vl i) ta] m } →
    (∀ h' tk t', (∀ b o, b ∉ wr → b ≠ S → s.heap.get? b = some o → h'.get? b = some o) → R (.ok (.ret (.int (preSum vl n) t'))) { s with heap := h', toks := tk }) →
    codeAny (model prog w) A (.builtin "sum.loop" ⟨[.ref it, .ref S, rawInt 0, rawInt 0], []⟩) R s := by
  have hw : S ∉ wr := fun z => hS0 (Wk.sub _ z)
  intro k
  induction k with
  | zero =>
    intro i s ta m hk hi hst hs hR
    obtain rfl : i = n := by omega
    refine codeAny_builtin F.entry_sum_loop ?_
    rw [Around.under_plainId F.plain_sum_loop _]
    refine wpAny_bind (wpAny_seqItems hs rfl ?_)
    exact wpAny_bind (wpAny_tryCatch (Wk.done s _ _ hst fun h' tk kp => wpAny_pure (hR h' tk ta fun b o nb _ e => kp b o nb e)))
  | succ k ih =>
    intro i s ta m hk hi hst hs hR
    have lt : i < n := by omega
    refine codeAny_builtin F.entry_sum_loop ?_
    rw [Around.under_plainId F.plain_sum_loop _]
    refine wpAny_bind (wpAny_seqItems hs rfl ?_)
    refine wpAny_bind (wpAny_tryCatch (Wk.item i s _ _ lt hst fun v h' tk hp hst' kp => ?_))
    obtain ⟨b, rfl, eb⟩ := hv i v hp
    have hs' := kp S _ hw hs
    have q1 := pre_bools vl h01 i
    have q2 := h01 i
    cases b
    · have eb : vl i = 0 := eb
      have e1 : preSum vl i + 0 = preSum vl (i + 1) := by simp only [preSum]; rw [eb]
      have fit : ((decide (-(2 ^ 63) ≤ (0 : Int)) && decide ((0 : Int) < 2 ^ 63)) && (decide (-(2 ^ 63) ≤ preSum vl i + 0) && decide (preSum vl i + 0 < 2 ^ 63))) = true := by
        simp only [Bool.and_eq_true, decide_eq_true_eq]
        omega
      show wpAny _ A.in1 (if (_ : Bool) = true then (mkInt (preSum vl i + 0) >>= _) else _) _ _ _
      split
      · rename_i z
        exact absurd z (by decide)
      split
      · refine wpAny_bind (wpAny_mkInt ?_)
        show wpAny _ A.in1 (updateSeq S (fun _ => #[.int (preSum vl i + 0) tk]) >>= _) _ _ _
        rw [e1]
        refine wpAny_bind (wpAny_updateSeq hs' rfl (wpAny_pure ⟨plainId_quiet F.plain_sum_loop _, ih (i + 1) _ tk _ (by omega) lt (Wk.frame _ _ _ hst' fun b hb o e => ?_) (Heap.get?_update_self _ hs' rfl) fun h2 tk2 t2 kp2 => ?_⟩))
        · exact (Heap.get?_update_other _ _ (fun z : S = b => hS0 (by rw [z]; exact hb))).trans e
        · exact hR h2 tk2 t2 fun b o nb ns e => kp2 b o nb ns ((Heap.get?_update_other _ _ (Ne.symm ns)).trans (kp b o nb e))
      · rename_i no
        exact absurd fit no
    · have eb : vl i = 1 := eb
      have e1 : preSum vl i + 1 = preSum vl (i + 1) := by simp only [preSum]; rw [eb]
      have fit : ((decide (-(2 ^ 63) ≤ (1 : Int)) && decide ((1 : Int) < 2 ^ 63)) && (decide (-(2 ^ 63) ≤ preSum vl i + 1) && decide (preSum vl i + 1 < 2 ^ 63))) = true := by
        simp only [Bool.and_eq_true, decide_eq_true_eq]
        omega
      show wpAny _ A.in1 (if (_ : Bool) = true then (mkInt (preSum vl i + 1) >>= _) else _) _ _ _
      split
      case isFalse z => exact absurd rfl z
      split
      · refine wpAny_bind (wpAny_mkInt ?_)
        show wpAny _ A.in1 (updateSeq S (fun _ => #[.int (preSum vl i + 1) tk]) >>= _) _ _ _
        rw [e1]
        refine wpAny_bind (wpAny_updateSeq hs' rfl (wpAny_pure ⟨plainId_quiet F.plain_sum_loop _, ih (i + 1) _ tk _ (by omega) lt (Wk.frame _ _ _ hst' fun b hb o e => ?_) (Heap.get?_update_self _ hs' rfl) fun h2 tk2 t2 kp2 => ?_⟩))
        · exact (Heap.get?_update_other _ _ (fun z : S = b => hS0 (by rw [z]; exact hb))).trans e
        · exact hR h2 tk2 t2 fun b o nb ns e => kp2 b o nb ns ((Heap.get?_update_other _ _ (Ne.symm ns)).trans (kp b o nb e))
      · rename_i no
        exact absurd fit no
end
section
variable {prog : Program} {w : World} {A : Around} {E : Value → Shared → Prop} {s : Shared} {l : Addr} {bs : List Bool} {Q : Value → Shared → Prop}
theorem sum_vals (bs : List Bool) : preSum (fun i => b2n (bs.getD i false)) bs.length = (bs.map b2n).sum := by
  have key : ∀ (m : Nat) (bs : List Bool), bs.length = m → ∀ f : Nat → Int, (∀ i, i < m → f i = b2n (bs.getD i false)) → preSum f m = (bs.map b2n).sum := by
    intro m
    induction m with
    | zero =>
      intro bs hl f h
      rw [List.length_eq_zero_iff.mp hl]
      rfl
    | succ m ih =>
      intro bs hl f h
      have hne : bs ≠ [] := fun z => by rw [z] at hl; cases hl
      obtain ⟨cs, c, rfl⟩ : ∃ cs c, bs = cs ++ [c] := ⟨bs.dropLast, bs.getLast hne, (List.dropLast_concat_getLast hne).symm⟩
      have hl : cs.length = m := by simpa using hl
      rw [List.map_append, List.sum_append]
      simp only [preSum]
      rw [ih cs hl f fun i hi => by rw [h i (by omega)]; simp [List.getD_eq_getElem?_getD, List.getElem?_append_left (show i < cs.length by omega)]]
      rw [h m (by omega), ← hl]
      simp [List.getD_eq_getElem?_getD]
  exact key _ bs rfl _ fun _ _ => rfl
theorem sumB_call (hh : A.handled = none) (hl : s.heap.IsList l (bs.map Value.bool).toArray) (hn : bs.length ≤ 1000000)
    (h : ∀ h' tk t', (∀ b o, s.heap.get? b = some o → h'.get? b = some o) → Q (.int (bs.map b2n).sum t') { s with heap := h', toks := tk }) : wpAny (model prog w) A (call (.builtin "sum") [.ref l]) Q E s := by
  refine call_function_tree F.kind_sum F.plain_sum F.entry_sum (F.args_sum1 _) ?_
  unfold Builtin.«sum»
  simp only [List.length_cons, List.length_nil]
  rw [if_neg (by decide)]
  refine wpAny_bind (wpAny_of_eq (show Builtin.Builtins.bindParams "sum" ["start"] 0 { } = pure [none] from rfl) ?_)
  refine wpAny_bind (iter_any hl fun s2 e2 st ne => ?_)
  subst e2
  refine wpAny_bind (wpAny_mkInt (wpAny_bind (wpAny_pure ?_)))
  simp only [List.forIn_cons, List.forIn_nil]
  refine wpAny_bind (wpAny_bind (wpAny_bind (wpAny_isInstance (T := "int") (b := false) (typeIs_int _ _ _) PySem.sub_int_str ?_)))
  simp only [Bool.false_eq_true, if_false]
  refine wpAny_pure (wpAny_bind (wpAny_bind (wpAny_isInstance (T := "int") (b := false) (typeIs_int _ _ _) PySem.sub_int_bytes ?_)))
  simp only [Bool.false_eq_true, if_false]
  refine wpAny_pure (wpAny_bind (wpAny_bind (wpAny_isInstance (T := "int") (b := false) (typeIs_int _ _ _) PySem.sub_int_bytearray ?_)))
  simp only [Bool.false_eq_true, if_false]
  refine wpAny_pure (wpAny_pure (wpAny_bind (wpAny_newObj_type ?_)))
  have Wk := Walks.list (prog := prog) (w := w) (A := A.in1) hh s.heap.objs.size l ne (bs.map Value.bool).toArray
  have lt : l < s.heap.objs.size := by
    obtain ⟨_, e, _⟩ := hl
    exact Heap.lt_size e
  have nf : (s.heap.push { cls := .type "list_iterator", data := .fields #[.ref l, .int 0 0] }).objs.size ∉ [s.heap.objs.size, l] := by
    rw [Heap.size_push]
    simp only [List.mem_cons, List.not_mem_nil, or_false, not_or]
    exact ⟨fun z => Nat.succ_ne_self _ z, fun z => Nat.lt_irrefl _ (Nat.lt_trans (Nat.lt_succ_self _) (z ▸ lt))⟩
  refine wpAny_pure ⟨plainId_quiet F.plain_sum_loop _, sumB_loop Wk (fun i => b2n (bs.getD i false)) (fun j => b2n_le _) (by simpa using hn) (fun i v hp => ?_) _ nf _ 0 _ _ 0 rfl (Nat.zero_le _) (Wk.frame _ _ _ st fun b _ o e => Heap.get?_push_of_some _ e) (Heap.get?_push_size _ rfl) fun h' tk t' kp => ?_⟩
  · have hp : (bs.map Value.bool)[i]? = some v := by simpa using hp
    rw [List.getElem?_map] at hp
    obtain ⟨b, hb, rfl⟩ := Option.map_eq_some_iff.mp hp
    exact ⟨b, rfl, by rw [List.getD_eq_getElem?_getD, hb]; rfl⟩
  · have e : (bs.map Value.bool).toArray.size = bs.length := by simp
    rw [e, sum_vals]
    refine h h' tk t' fun b o eb => ?_
    have hb := Heap.lt_size eb
    exact kp b o (by simp only [List.mem_cons, List.not_mem_nil, or_false]; exact Nat.ne_of_lt hb) (by rw [Heap.size_push]; exact Nat.ne_of_lt (Nat.lt_succ_of_lt hb)) (Heap.get?_push_of_some _ (Heap.get?_push_of_some _ eb))
end
section
variable {X : Cx} {H : Hp} {p : Addr} {bs : List Bool}
theorem ec_sumB (h : SqL X.K H p (bs.map V.bl)) (hn : bs.length ≤ 1000000) (hc : X.calm = true := by rfl) : EC X (.builtin "sum") [.ref p] H (.int (bs.map b2n).sum) :=
  ec_of (r := fun xs H Q => ∃ p bs, xs = [V.ref p] ∧ SqL X.K H p (bs.map V.bl) ∧ bs.length ≤ 1000000 ∧ Q (.int (bs.map b2n).sum) H) (fun pins s σ H xs us Q I r ⟨p, bs, e, h, hn, q⟩ => by
    subst e
    obtain ⟨its, rv, hl, _⟩ := I.list h
    rw [Vals.ref1 r]
    have hb := rv.bls
    subst hb
    exact sumB_call (I.ok.hd hc) hl.isList hn fun h' tk t' kp => ⟨.int _, H, I.kept kp, ⟨_, rfl⟩, q⟩) fun _ e _ q => ⟨p, bs, rfl, e.sqL h, hn, q⟩
end
/-! ## plain laws of numbers -/
theorem pow_mono {n m : Nat} (h : n ≤ m) : (2 : Int) ^ n ≤ 2 ^ m := by
  have := Nat.pow_le_pow_right (n := 2) (by decide) h
  have h2 : ((2 ^ n : Nat) : Int) ≤ ((2 ^ m : Nat) : Int) := by omega
  simpa [Int.natCast_pow] using h2
theorem small_n {n : Int} (h0 : 0 ≤ n) (h : n < 1000000000000000000000000000000000000000000000000000000000000000) : n.natAbs < 2 ^ 100000 := by
  have e : (2 : Nat) ^ 240 = 1766847064778384329583297500742918515827483896875618958121606201292619776 := by decide +kernel
  refine Nat.lt_of_lt_of_le (show n.natAbs < 2 ^ 240 from ?_) (Nat.pow_le_pow_right (by decide) (by decide))
  rw [e]
  omega
def isPow (n : Int) : Bool := decide (0 < n) && decide (Builtin.bitAnd n (n - 1) = 0)
def pal (n : Int) : Int := 2 ^ Builtin.Int.intBits (if n - 1 > 0 then n - 1 else 0)
theorem pow_nat (k : Nat) : ((2 : Int) ^ k) = ((2 ^ k : Nat) : Int) := by simp [Int.natCast_pow]
theorem isPow_pow (k : Nat) : isPow ((2 : Int) ^ k) = true := by
  have hp : 0 < 2 ^ k := Nat.pow_pos (by decide)
  have e : ((2 ^ k : Nat) : Int) - 1 = ((2 ^ k - 1 : Nat) : Int) := by omega
  rw [pow_nat, isPow, e]
  have h : (2 ^ k) &&& (2 ^ k - 1) = 0 := by rw [Nat.and_two_pow_sub_one_eq_mod, Nat.mod_self]
  simp only [Builtin.bitAnd, Int.natCast_nonneg, decide_true, Int.toNat_natCast, h]
  generalize 2 ^ k = m at *
  simp; omega
theorem pal_facts {n : Int} (h0 : 0 ≤ n) : n ≤ pal n ∧ (pal n > 1 → pal n / 2 < n) := by
  unfold pal
  obtain ⟨n, rfl⟩ := Int.eq_ofNat_of_zero_le h0
  by_cases h1 : n ≤ 1
  · rw [if_neg (by omega)]
    have : Builtin.Int.intBits 0 = 0 := rfl
    rw [this]
    constructor <;> simp <;> omega
  · rw [if_pos (by omega)]
    have hz : ((n : Int) - 1) = ((n - 1 : Nat) : Int) := by omega
    rw [hz]
    have hb : Builtin.Int.intBits ((n - 1 : Nat) : Int) = (n - 1).log2 + 1 := by
      unfold Builtin.Int.intBits
      rw [if_neg (by simp; omega)]
      rfl
    rw [hb, pow_nat]
    have l1 : n - 1 < 2 ^ ((n - 1).log2 + 1) := Nat.lt_log2_self
    have l2 : 2 ^ (n - 1).log2 ≤ n - 1 := Nat.log2_self_le (by omega)
    have e : 2 ^ ((n - 1).log2 + 1) = 2 * 2 ^ (n - 1).log2 := by rw [Nat.pow_succ, Nat.mul_comm]
    have l2' : 2 ^ ((n - 1).log2 + 1) ≤ 2 * (n - 1) := by rw [e]; omega
    clear l2 e
    generalize 2 ^ ((n - 1).log2 + 1) = m at *
    constructor
    · omega
    · intro _; omega
def VerOk (v : Int) : Prop := 0 ≤ v ∧ v < 1000000000000000000000000000000000000000000000000000000000000
theorem shl_bound {d s : Int} (d0 : 0 ≤ d) (d1 : d < 1000) (s0 : 0 ≤ s) (s1 : s < 180) : 0 ≤ d * 2 ^ s.toNat ∧ d * 2 ^ s.toNat < 1000 * 2 ^ 180 := by
  obtain ⟨n, rfl⟩ := Int.eq_ofNat_of_zero_le s0
  have hp : (0 : Int) < 2 ^ n := Int.pow_pos (by decide)
  have hn : n ≤ 180 := by omega
  have hle : (2 : Int) ^ n ≤ 2 ^ 180 := pow_mono hn
  rw [Int.toNat_natCast]
  exact ⟨Int.mul_nonneg d0 (Int.le_of_lt hp), Int.lt_of_lt_of_le (Int.mul_lt_mul_of_pos_right d1 hp) (Int.mul_le_mul_of_nonneg_left hle (by decide))⟩
/-- an int that is at least so much -/
def numAt (least : Int) : V → Bool
  | .int i => decide (least ≤ i)
  | _ => false
theorem bits_nat {i : Int} : ((Builtin.Int.intBits i : Nat) : Int).toNat = Builtin.Int.intBits i := Int.toNat_natCast _

/-- the lowest one of a number -/
def lowb (v : Int) : Int := Builtin.bitAnd v (-v)
theorem and_two (a b c d : Nat) (hb : b < 2) (hd : d < 2) : (2 * a + b) &&& (2 * c + d) = 2 * (a &&& c) + (b &&& d) := by
  have q : ((2 * a + b) &&& (2 * c + d)) / 2 = a &&& c := by
    rw [Nat.and_div_two, show (2 * a + b) / 2 = a by omega, show (2 * c + d) / 2 = c by omega]
  have r : ((2 * a + b) &&& (2 * c + d)) % 2 = b &&& d := by
    have := Nat.and_mod_two_pow (a := 2 * a + b) (b := 2 * c + d) (n := 1)
    rw [show (2 : Nat) ^ 1 = 2 from rfl] at this
    rw [this, show (2 * a + b) % 2 = b by omega, show (2 * c + d) % 2 = d by omega]
  omega
theorem and_pred (m : Nat) : ∀ j : Nat, (2 ^ j * (2 * m + 1)) &&& (2 ^ j * (2 * m + 1) - 1) = 2 ^ j * (2 * m)
  | 0 => by
    rw [Nat.pow_zero, Nat.one_mul, Nat.one_mul, Nat.add_sub_cancel]
    have := and_two m 1 m 0 (by decide) (by decide)
    rw [Nat.and_self] at this
    exact this
  | j + 1 => by
    have ih := and_pred m j
    have hp : 0 < 2 ^ j * (2 * m + 1) := Nat.mul_pos (Nat.pow_pos (by decide)) (Nat.succ_pos _)
    have e1 : 2 ^ (j + 1) * (2 * m + 1) = 2 * (2 ^ j * (2 * m + 1)) := by rw [Nat.pow_succ, Nat.mul_comm (2 ^ j) 2, Nat.mul_assoc]
    have e2 : 2 ^ (j + 1) * (2 * m) = 2 * (2 ^ j * (2 * m)) := by rw [Nat.pow_succ, Nat.mul_comm (2 ^ j) 2, Nat.mul_assoc]
    rw [e1, e2, ← ih]
    generalize 2 ^ j * (2 * m + 1) = u at hp ⊢
    have := and_two u 0 (u - 1) 1 (by decide) (by decide)
    rw [Nat.add_zero, show 2 * (u - 1) + 1 = 2 * u - 1 by omega] at this
    rw [this]
    rfl
theorem lowb_nat {n : Nat} (h : 0 < n) : lowb (n : Int) = (n : Int) - ((n &&& (n - 1) : Nat) : Int) := by
  unfold lowb Builtin.bitAnd
  have e1 : decide (0 ≤ (n : Int)) = true := by simp
  have e2 : decide (0 ≤ -(n : Int)) = false := by simp; omega
  rw [e1, e2]
  have e3 : (Builtin.bitNot (-(n : Int))).toNat = n - 1 := by unfold Builtin.bitNot; omega
  show (n : Int) - (((n : Int).toNat &&& (Builtin.bitNot (-(n : Int))).toNat : Nat) : Int) = _
  rw [e3, Int.toNat_natCast]
/-- the power of two that divides, while its double does not -/
theorem lowb_is {v : Int} {j : Nat} (h0 : 0 < v) (h1 : v % (2 ^ j : Int) = 0) (h2 : v % (2 * 2 ^ j : Int) ≠ 0) : lowb v = 2 ^ j := by
  obtain ⟨n, rfl⟩ := Int.eq_ofNat_of_zero_le (Int.le_of_lt h0)
  have h0 : 0 < n := by omega
  have p : (2 : Int) ^ j = ((2 ^ j : Nat) : Int) := by simp [Int.natCast_pow]
  rw [p] at h1 h2 ⊢
  have h1 : n % 2 ^ j = 0 := by have : ((n % 2 ^ j : Nat) : Int) = 0 := by rw [Int.natCast_emod]; exact h1
                                omega
  have h2 : n % (2 * 2 ^ j) ≠ 0 := fun z => h2 (by
    have : ((n % (2 * 2 ^ j) : Nat) : Int) = 0 := by rw [z]; rfl
    rw [Int.natCast_emod, Int.natCast_mul] at this
    exact this)
  obtain ⟨q, rfl⟩ := Nat.dvd_of_mod_eq_zero h1
  have ho : q % 2 = 1 := by
    rcases Nat.mod_two_eq_zero_or_one q with z | z
    · refine absurd ?_ h2
      obtain ⟨r, rfl⟩ := Nat.dvd_of_mod_eq_zero z
      rw [← Nat.mul_assoc, Nat.mul_comm (2 ^ j) 2, Nat.mul_mod_right]
    · exact z
  obtain ⟨m, rfl⟩ : ∃ m, q = 2 * m + 1 := ⟨q / 2, by omega⟩
  rw [lowb_nat h0, and_pred m j, Nat.mul_add, Nat.mul_one]
  omega
theorem pow_dvd_le {v : Int} {j : Nat} (h0 : 0 < v) (h1 : v % (2 ^ j : Int) = 0) : (2 : Int) ^ j ≤ v := Int.le_of_dvd h0 (Int.dvd_of_emod_eq_zero h1)
/-- the order of the versions -/
def precB (v o : Int) : Bool := if (decide (v = 0) || decide (o = 0)) = true then decide (v = 0) && decide (o > 0) else if lowb v = lowb o then decide (v > o) else decide (lowb v > lowb o)
theorem blk_fx {P : Program} {w : World} {K : PySem.W.Frag} {mg : Str → Option Value} {base : Heap} {N : List Str} {n : Str} {st : Stmt} {f : Addr} {cd : Value} {A : Around} {outer : List Env} {s : Shared} {H : Hp} {E : XK} {scope : Scope} {own : List (Str × Nat)} (h : blkC N (defScope st) scope own = true) : blkC (fx P w K mg base N n st f cd A outer s H E).N (fx P w K mg base N n st f cd A outer s H E).env.scope scope own = true := h
def Num (v : V) : Prop := ∃ n : Int, v = .int n ∧ 0 ≤ n ∧ n < 1000000000000000000000000000000000000000000000000000000000000000
theorem VerOk.num {v : Int} (h : VerOk v) : Num (.int v) := ⟨v, rfl, h.1, by have := h.2; omega⟩
theorem lowb_le {n : Int} (h : 0 < n) : 0 ≤ lowb n ∧ lowb n ≤ n := by
  obtain ⟨m, rfl⟩ := Int.eq_ofNat_of_zero_le (Int.le_of_lt h)
  rw [lowb_nat (by omega)]
  have := Nat.and_le_left (n := m) (m := m - 1)
  omega
theorem prec_trans {a b c : Int} (a0 : 0 ≤ a) (b0 : 0 ≤ b) (c0 : 0 ≤ c) (h1 : precB a b = true) (h2 : precB b c = true) : precB a c = true := by
  unfold precB at *
  by_cases za : a = 0
  · by_cases zb : b = 0
    · simp [za, zb] at h1
    · by_cases zc : c = 0
      · simp [zb, zc] at h2
      · simp [za]; omega
  · by_cases zb : b = 0
    · simp [za, zb] at h1
    · by_cases zc : c = 0
      · simp [zb, zc] at h2
      · simp [za, zb] at h1
        simp [zb, zc] at h2
        simp [za, zc]
        split at h1 <;> split at h2 <;> split <;> (try simp only [decide_eq_true_eq] at *) <;> omega
theorem all_rep (n : Nat) : (List.replicate n true).all id = true := by simp
theorem numAt_bad {a : Int} (h : 0 ≤ a) (z : numAt 0 (.int a) = false) : False := by
  simp [numAt] at z
  omega
theorem numAt_bad2 {a b : Int} (ha : 0 ≤ a) (hb : 0 ≤ b) (z : numAt 0 (.int a) = false ∨ numAt 0 (.int b) = false) : False := z.elim (numAt_bad ha) (numAt_bad hb)
/-! ## calls with keywords, defaults -/
section
variable {X : Cx} {W : WX} {e : Expr} {es : List Expr} {kws : List Keyword} {σ : St} {H H1 : Hp} {Q : VK} {QA QA1 : List V → Hp → Prop} {nm : Option Str} {kpos : Pos} {v : V} {vs : List V}
/-- the keywords' values -/
def WK (X : Cx) (kws : List Keyword) (σ : St) (H : Hp) (Q : List V → Hp → Prop) : Prop :=
  ∀ H1, Ex H H1 → ∀ pos pins s, Inv X pins σ H1 s → wpAny (model X.prog X.w) X.A (evalAll ((backToKw pos (keywordEach kws X.env)).map (·.2))) (AP X pins σ (upA Q)) X.xe s
def tWK (X : Cx) (kws : List Keyword) : TA := fun σ H1 Q1 => ∃ H Q, Ex H H1 ∧ WK X kws σ H Q ∧ ∀ v H2, upA Q v H2 → Q1 v H2
theorem pk_W : PK X kws (tWK X kws) := ⟨fun pos pins s σ H1 Q1 I ⟨H, Q, x, w, k⟩ => thn (w H1 x pos pins s I) fun u s' ⟨v, H2, I2, r, q⟩ => ⟨v, H2, I2, r, k v H2 q⟩⟩
theorem WK.of {t : TA} (h : PK X kws t) (q : ∀ H1, Ex H H1 → t σ H1 (upA QA)) : WK X kws σ H QA := fun H1 x pos pins s I => h.run pos pins s σ H1 _ I (q H1 x)
theorem WK.t (w : WK X kws σ H QA) (x : Ex H H1) (k : ∀ v H2, upA QA v H2 → QA1 v H2) : tWK X kws σ H1 QA1 := ⟨H, QA, x, w, k⟩
theorem wk_nil (q : QA [] H) : WK X [] σ H QA := .of pk_nil fun H1 x => ⟨H, x, q⟩
theorem wk_cons (h : WE X e σ H fun x H1 => WK X kws σ H1 fun xs H2 => QA (x :: xs) H2) : WK X (⟨nm, e, kpos⟩ :: kws) σ H QA :=
  .of (pk_cons pe_W pk_W) fun H1 x => h.t x fun v H2 ⟨H3, x3, w⟩ => w.t x3 fun _ _ q => q
def EK (X : Cx) (kws : List Keyword) (σ : St) (H : Hp) (vs : List V) : Prop := ∀ H1, Ex H H1 → ∀ Q : List V → Hp → Prop, Q vs H1 → WK X kws σ H1 Q
theorem EK.wk (h : EK X kws σ H vs) (q : QA vs H) : WK X kws σ H QA := h H (Ex.refl H) QA q
theorem ek_nil : EK X [] σ H [] := fun H1 x Q q => wk_nil q
theorem ek_cons (ha : EV X e σ H v) (hr : EK X kws σ H vs) : EK X (⟨nm, e, kpos⟩ :: kws) σ H (v :: vs) := fun H1 x Q q => wk_cons (ha H1 x _ (hr H1 x _ q))
end
/-- a def called with m positional values and the keywords ks; gV: the values in the parameters' order -/
structure CalK (P : Program) (w : World) (K : PySem.W.Frag) (mg : Str → Option Value) (base : Heap) (n : Str) (k m : Nat) (ks : List Str) (gV : List V → List V → List V) (sp : Sp) : Prop where
  ex : ∃ (f : Addr) (fd : FuncData) (ps : List Str) (g : List Value → List Value → List Value), FnG P w K mg base k f fd ps sp ∧ mg n = some (.ref f) ∧ PySem.W.keepIn K (.ref f) = true ∧ KBn K fd ps m ks g gV
section
variable {X : Cx} {W : WX} {e : Expr} {es : List Expr} {kws : List Keyword} {σ : St} {H H1 : Hp} {Q : VK} {E : XK} {v : V} {vs zs : List V} {n : Str} {k j m : Nat} {f : Addr} {fd : FuncData} {ps ks : List Str} {sp : Sp} {us ws : List Value} {p pos : Pos} {pins : List (Addr × Obj)} {s : Shared} {g : List Value → List Value → List Value} {gV : List V → List V → List V}
theorem run_fngN (F : FnG X.prog X.w X.K X.mg X.base k f fd ps sp) (c : Cn X W k) (hb : KBn X.K fd ps m ks g gV) (I : Inv X pins σ H1 s) (x : Ex H H1) (r : Vals vs us) (rz : Vals zs ws) (l1 : vs.length = m) (l2 : zs.length = ks.length) (h : sp (gV vs zs) H Q fun c d H' => W c d σ H') :
    wpAny (model X.prog X.w) X.A (call (.ref f) us (ks.zip ws)) (EP X pins σ (up Q)) X.xe s := by
  have r2 := hb.rel r rz
  refine wpAny_call (codeAny_mono (F.run X.A X.stack s H1 ⟨us, ks.zip ws⟩ (g us ws) (gV vs zs) H Q _ c.room c.gd I.env0 (hb.to s us ws I.kIn (r.length.symm.trans l1) (rz.length.symm.trans l2)) r2 x h) fun res s' q => ?_)
  rcases res with er | fl
  · exact c.tk er s' (XE.of_call I (fun cl d H' ⟨H2, x2, q2⟩ => c.wu _ _ _ _ _ q2 x2) q)
  · cases fl with
    | ret u => exact I.after q
    | _ => exact q.elim
/-- f(e, .., k = v, ..) -/
theorem we_callK (C : CalK X.prog X.w X.K X.mg X.base n k m ks gV sp) (c : Cn X W j) (ha : WA X (e :: es) σ H fun vs H1 => WK X kws σ H1 fun zs H2 => vs.length = m ∧ zs.length = ks.length ∧ sp (gV vs zs) H2 Q fun c d H' => W c d σ H') (hkj : k ≤ j := by decide) (hg : Gl X n := by rfl)
    (hall : (backToKw pos (keywordEach kws X.env)).all (·.1.isSome) = true := by rfl) (hks : (backToKw pos (keywordEach kws X.env)).filterMap (·.1) = ks := by rfl)
    (hdb : (n == ("__debug__" : Str)) = false := by decide) (he : starEach (e :: es) X.env = (false, eval e X.env) :: starEach es X.env := by rfl)
    (hpl : ((backTo pos (starEach (e :: es) X.env)).any (·.1) || (backToKw pos (keywordEach kws X.env)).any (·.1.isNone)) = false := by rfl) : WE X (.Call (.Name n p) (e :: es) kws pos) σ H Q := by
  obtain ⟨f, fd, ps, g, F, hm, hk, hb⟩ := C.ex
  intro H1 x pins s I
  refine wpAny_Call_Name_kw (ld_glob I hg hm ?_ hdb)
  refine PySem.W.callWith_KW (h₀ := X.base) I.ok.mod.kin hk hall (thn (ha H1 x pos pins s I) fun us s1 ⟨vs, H2, I2, r, H3, x3, q⟩ => ?_) hpl he
  refine thn (q H2 x3 pos pins s1 I2) fun ws s2 ⟨zs, H4, I4, rz, H5, x5, l1, l2, q2⟩ => ⟨I4.kIn, ?_⟩
  rw [hks]
  exact run_fngN F (c.mono hkj) hb I4 x5 r rz l1 l2 q2
theorem we_callK0 (C : CalK X.prog X.w X.K X.mg X.base n k 0 ks gV sp) (c : Cn X W j) (ha : WK X kws σ H fun zs H2 => zs.length = ks.length ∧ sp (gV [] zs) H2 Q fun c d H' => W c d σ H') (hkj : k ≤ j := by decide) (hg : Gl X n := by rfl)
    (hall : (backToKw pos (keywordEach kws X.env)).all (·.1.isSome) = true := by rfl) (hks : (backToKw pos (keywordEach kws X.env)).filterMap (·.1) = ks := by rfl)
    (hdb : (n == ("__debug__" : Str)) = false := by decide) (hpl : ((backTo pos (starEach [] X.env)).any (·.1) || (backToKw pos (keywordEach kws X.env)).any (·.1.isNone)) = false := by rfl) : WE X (.Call (.Name n p) [] kws pos) σ H Q := by
  obtain ⟨f, fd, ps, g, F, hm, hk, hb⟩ := C.ex
  intro H1 x pins s I
  refine wpAny_Call_Name_kw (ld_glob I hg hm ?_ hdb)
  refine PySem.W.callWith_KW0 (h₀ := X.base) I.ok.mod.kin hk hall ?_ hpl
  refine thn (ha H1 x pos pins s I) fun ws s2 ⟨zs, H4, I4, rz, H5, x5, l2, q2⟩ => ⟨I4.kIn, ?_⟩
  rw [hks]
  exact run_fngN (us := []) (vs := []) F (c.mono hkj) hb I4 x5 .nil rz rfl l2 q2
theorem ev_callK (C : CalK X.prog X.w X.K X.mg X.base n k m ks gV sp) (c : Cn X W j) (ha : EA X (e :: es) σ H vs) (hz : EK X kws σ H zs) (h : vs.length = m ∧ zs.length = ks.length ∧ ∀ H1, Ex H H1 → ∀ Q E, Q v H1 → sp (gV vs zs) H1 Q E) (hkj : k ≤ j := by decide) (hg : Gl X n := by rfl)
    (hall : (backToKw pos (keywordEach kws X.env)).all (·.1.isSome) = true := by rfl) (hks : (backToKw pos (keywordEach kws X.env)).filterMap (·.1) = ks := by rfl)
    (hdb : (n == ("__debug__" : Str)) = false := by decide) (he : starEach (e :: es) X.env = (false, eval e X.env) :: starEach es X.env := by rfl)
    (hpl : ((backTo pos (starEach (e :: es) X.env)).any (·.1) || (backToKw pos (keywordEach kws X.env)).any (·.1.isNone)) = false := by rfl) : EV X (.Call (.Name n p) (e :: es) kws pos) σ H v := fun H1 x Q q =>
  we_callK C c (ha H1 x _ (hz H1 x _ ⟨h.1, h.2.1, h.2.2 H1 x Q _ q⟩)) hkj hg hall hks hdb he hpl
theorem ev_callK0 (C : CalK X.prog X.w X.K X.mg X.base n k 0 ks gV sp) (c : Cn X W j) (hz : EK X kws σ H zs) (h : zs.length = ks.length ∧ ∀ H1, Ex H H1 → ∀ Q E, Q v H1 → sp (gV [] zs) H1 Q E) (hkj : k ≤ j := by decide) (hg : Gl X n := by rfl)
    (hall : (backToKw pos (keywordEach kws X.env)).all (·.1.isSome) = true := by rfl) (hks : (backToKw pos (keywordEach kws X.env)).filterMap (·.1) = ks := by rfl)
    (hdb : (n == ("__debug__" : Str)) = false := by decide) (hpl : ((backTo pos (starEach [] X.env)).any (·.1) || (backToKw pos (keywordEach kws X.env)).any (·.1.isNone)) = false := by rfl) : EV X (.Call (.Name n p) [] kws pos) σ H v := fun H1 x Q q =>
  we_callK0 C c (hz H1 x _ ⟨h.1, h.2 H1 x Q _ q⟩) hkj hg hall hks hdb hpl
end
section
variable {P : Program} {w : World} {K : PySem.W.Frag} {mg : Str → Option Value} {base : Heap} {n : Str} {st : Stmt} {ps N : List Str} {k m : Nat} {sp : Sp} {ks : List Str} {kws : List (Str × V)}
/-- the same def, called with keywords: how they bind is told of its own text -/
theorem Cal.kw (C : Cal P w K mg base n k ps [] sp) (d : Def K mg n st ps) (m : Nat) (ks : List Str) (g : {α : Type} → List α → List α → List α) (hrel : ∀ {vs zs : List V} {us ws : List Value}, Vals vs us → Vals zs ws → Vals (g vs zs) (g us ws))
    (hb : ∀ (kV doc pm : Value) (an : Option Addr) (cdv ct : Value) (us ws : List Value), us.length = m → ws.length = ks.length → bindArgs (PySem.W.fnOf n n (defArgs st) (defBody st) (defScope st) .none kV doc pm an cdv ct) ⟨us, ks.zip ws⟩ = pure (ps.zip (g us ws))) : CalK P w K mg base n k m ks g sp := by
  obtain ⟨f, fd, ds, F, hm, hk, _, _, oc, od, osl, lk⟩ := C.ex
  obtain ⟨oc2, od2, kV, doc, pm, an, cd, ct, osl2, e, lk2, _⟩ := d.F.ex
  have ef := hm.symm.trans d.g
  cases ef
  have e2 := lk.symm.trans lk2
  simp only [Option.some.injEq, Obj.mk.injEq, Data.func.injEq] at e2
  have e3 : fd = d.fd := e2.2.2.1
  refine ⟨d.f, fd, ps, g, F, hm, hk, ⟨fun s us ws X l1 l2 => ?_, fun r1 r2 => hrel r1 r2⟩⟩
  rw [e3, e]
  exact .of_eq (hb kV doc pm an cd ct us ws l1 l2)
/-- a def with keyword-only parameters that have defaults, no other defaults -/
structure DefK (K : PySem.W.Frag) (mg : Str → Option Value) (n : Str) (st : Stmt) (kws : List (Str × V)) : Type where
  f : Addr
  fd : FuncData
  F : FunD K n n (defArgs st) (defBody st) (defScope st) [] kws f fd
  g : mg n = some (.ref f)
theorem DefK.fng {ps : List Str} (d : DefK K mg n st kws) (S : FnScope N ps (defScope st)) (len : ∀ vs H Q E, sp vs H Q E → vs.length = ps.length)
    (body : ∀ (cd : Value) (A : Around) (outer : List Env) (s : Shared) (H1 : Hp) (E1 : XK) (W : WX) (vs : List V) (H : Hp) (Q : VK) (E : XK), Cn (fx P w K mg base N n st d.f cd A outer s H1 E1) W k → Own (fx P w K mg base N n st d.f cd A outer s H1 E1) →
      (∀ c d σ H', E c d H' → W c d σ H') → sp vs H Q E → WSs (fx P w K mg base N n st d.f cd A outer s H1 E1) (defBody st) { nx := fun _ H' => Q .non H', rt := Q } (start N vs) H) : FnG P w K mg base (k + 1) d.f d.fd ps sp := by
  obtain ⟨oc, od, dV, kV, doc, pm, an, cdv, ct, osl, e, lk, hcd, hD, hK⟩ := d.F.ex
  rcases hD with ⟨_, rfl⟩ | ⟨z, _⟩
  · exact fng_of ⟨⟨oc, od, kV, doc, pm, an, cdv, ct, osl, e, lk, hcd⟩, d.F.kp⟩ S len body
  · exact absurd rfl z
/-- called without them: their defaults -/
theorem DefK.cal0 {ps : List Str} (d : DefK K mg n st kws) (F : FnG P w K mg base k d.f d.fd ps sp) (m : Nat) (hk : kws ≠ []) (hn : m + kws.length = ps.length)
    (h : ∀ (D : Addr) (doc pm : Value) (an : Option Addr) (cdv ct : Value) (us ks : List Value), us.length = m → ks.length = kws.length →
      KwChain D ((kws.map (·.1)).zip ks) (bindArgs (PySem.W.fnOf n n (defArgs st) (defBody st) (defScope st) .none (.ref D) doc pm an cdv ct) ⟨us, []⟩) (ps.zip (us ++ ks))) : Cal P w K mg base n k ps (kws.map (·.2)) sp := by
  obtain ⟨ds, hv, hb⟩ := d.F.binds0 (ps := ps) m hk hn h
  obtain ⟨oc, od, dV, kV, doc, pm, an, cdv, ct, osl, e, lk, _⟩ := d.F.ex
  exact ⟨d.f, d.fd, ds, F, d.g, d.F.kp, hb, hv, oc, od, osl, lk⟩
/-- called with some of them -/
theorem DefK.calK {ps : List Str} (d : DefK K mg n st kws) (F : FnG P w K mg base k d.f d.fd ps sp) (m : Nat) (ks : List Str) (ms : List (Str × V)) (g : {α : Type} → List α → List α → List α → List α) (hk : kws ≠ []) (hms : ∀ q ∈ ms, q ∈ kws)
    (hrel : ∀ {vs mz zs : List V} {us mv ws : List Value}, Vals vs us → Vals mz mv → Vals zs ws → Vals (g vs mz zs) (g us mv ws))
    (h : ∀ (D : Addr) (doc pm : Value) (an : Option Addr) (cdv ct : Value) (us mv ws : List Value), us.length = m → mv.length = ms.length → ws.length = ks.length →
      KwChain D ((ms.map (·.1)).zip mv) (bindArgs (PySem.W.fnOf n n (defArgs st) (defBody st) (defScope st) .none (.ref D) doc pm an cdv ct) ⟨us, ks.zip ws⟩) (ps.zip (g us mv ws))) : CalK P w K mg base n k m ks (fun vs zs => g vs (ms.map (·.2)) zs) sp := by
  obtain ⟨mv, hb⟩ := d.F.kbinds0 (ps := ps) m ks ms g hk hms hrel h
  exact ⟨d.f, d.fd, ps, _, F, d.g, d.F.kp, hb⟩
end
/-! ## wide products -/
def Wide (i : Int) : Prop := -10000000000000000000000000000000000000000000000000000000000000000000000000000000000000000000000000000 ≤ i ∧ i ≤ 10000000000000000000000000000000000000000000000000000000000000000000000000000000000000000000000000000
theorem Wide.bits {i : Int} (h : Wide i) : Builtin.Int.intBits i ≤ 400 := PyProof.Rows.intBits_le (big_lt h.1 h.2)
theorem eo_mulW {X : Cx} {H : Hp} {i j : Int} (h1 : Wide i) (h2 : Wide j) : EO X (binaryOp .Mult) (.int i) (.int j) H (.int (i * j)) := eo_of op_mulX fun _ _ _ q => ⟨i, j, rfl, rfl, by
  have a := h1.bits
  have b := h2.bits
  show (Builtin.Int.intBits i : Int) + (Builtin.Int.intBits j : Int) ≤ 134217728
  omega, q⟩

/-! ## the strongest versions of a range, as the program finds them -/
def oddFrom (low power : Int) : Nat → Int → List Int
  | 0, _ => []
  | n + 1, last => if (decide (last > 0) && decide (last * power ≥ low)) = true then last * power :: oddFrom low power n (last - 2) else []
def lastOf (high power : Int) : Int := if decide (high / power % 2 = 0) = true then high / power - 1 else high / power
def strL (low high : Int) (n : Nat) : Nat → List Int → List Int
  | 0, f => f
  | k + 1, f => if f.length < n then strL low high n k (f ++ oddFrom low (2 ^ k) (n - f.length) (lastOf high (2 ^ k))) else f
def strongL (low high : Int) (n : Nat) : List Int := strL low high n (Builtin.Int.intBits high + 1) (if (decide (low = 0) && decide ((n : Int) > 0)) = true then [0] else [])
theorem oddFrom_len {low power : Int} : ∀ (n : Nat) (last : Int), (oddFrom low power n last).length ≤ n
  | 0, _ => Nat.le_refl _
  | n + 1, last => by
    unfold oddFrom
    split
    · rw [List.length_cons]
      exact Nat.succ_le_succ (oddFrom_len n _)
    · exact Nat.zero_le _
theorem oddFrom_mem {low power : Int} (hp : 0 < power) : ∀ (n : Nat) (last v : Int), v ∈ oddFrom low power n last → low ≤ v ∧ 0 < v ∧ v ≤ last * power
  | 0, _, _, h => nomatch h
  | n + 1, last, v, h => by
    unfold oddFrom at h
    split at h
    · rename_i hc
      simp only [Bool.and_eq_true, decide_eq_true_eq] at hc
      rcases List.mem_cons.mp h with rfl | h
      · exact ⟨hc.2, Int.mul_pos hc.1 hp, Int.le_refl _⟩
      · obtain ⟨a, b, c⟩ := oddFrom_mem hp n _ v h
        exact ⟨a, b, Int.le_trans c (Int.mul_le_mul_of_nonneg_right (by omega) (by omega))⟩
    · cases h
theorem lastOf_le {high power : Int} (hp : 0 < power) : lastOf high power * power ≤ high := by
  have h1 : high / power * power ≤ high := Int.ediv_mul_le _ (by omega)
  unfold lastOf
  split
  · rw [Int.sub_mul, Int.one_mul]
    omega
  · exact h1
theorem strL_ok {low high : Int} {n : Nat} (h0 : 0 ≤ high) : ∀ (k : Nat) (f : List Int), f.length ≤ n → (∀ v ∈ f, 0 ≤ v ∧ v ≤ high) → (strL low high n k f).length ≤ n ∧ ∀ v ∈ strL low high n k f, 0 ≤ v ∧ v ≤ high
  | 0, f, hl, hm => ⟨hl, hm⟩
  | k + 1, f, hl, hm => by
    unfold strL
    split
    · have hp : (0 : Int) < 2 ^ k := Int.pow_pos (by decide)
      refine strL_ok h0 k _ ?_ fun v hv => ?_
      · rw [List.length_append]
        have := oddFrom_len (low := low) (power := 2 ^ k) (n - f.length) (lastOf high (2 ^ k))
        omega
      · rcases List.mem_append.mp hv with hv | hv
        · exact hm v hv
        · obtain ⟨_, b, c⟩ := oddFrom_mem hp _ _ v hv
          exact ⟨by omega, Int.le_trans c (lastOf_le hp)⟩
    · exact ⟨hl, hm⟩
theorem strongL_ok {low high : Int} {n : Nat} (h0 : 0 ≤ high) : (strongL low high n).length ≤ n ∧ ∀ v ∈ strongL low high n, 0 ≤ v ∧ v ≤ high := by
  unfold strongL
  split
  · rename_i hc
    simp only [Bool.and_eq_true, decide_eq_true_eq] at hc
    exact strL_ok h0 _ _ (by simp; omega) (by simp [h0])
  · exact strL_ok h0 _ _ (Nat.zero_le _) (by simp)
/-! ## readings: what a text asks, no machine in sight -/
abbrev RX := St → Hp → VK → WX → Prop
abbrev RT := St → Hp → (Bool → Hp → Prop) → WX → Prop
abbrev RA := St → Hp → (List V → Hp → Prop) → WX → Prop
abbrev RS := Ends → WX → St → Hp → Prop
abbrev RG := V → St → Hp → (St → Hp → Prop) → WX → Prop
abbrev RGs := List V → St → Hp → (St → Hp → Prop) → WX → Prop
abbrev RO := V → V → Hp → VK → Prop
abbrev RC := List V → Hp → VK → Prop
structure SX (X : Cx) (j : Nat) (t : RX) (e : Expr) : Prop where
  run : ∀ {W : WX}, Cn X (upW W) j → ∀ {σ H Q}, t σ H Q W → WE X e σ H Q
structure SB (X : Cx) (j : Nat) (t : RT) (e : Expr) : Prop where
  run : ∀ {W : WX}, Cn X (upW W) j → ∀ {σ H Q}, t σ H Q W → WT X e σ H Q
structure SW (X : Cx) (j : Nat) (t : RT) (e : Expr) : Prop where
  run : ∀ {W : WX}, Cn X (upW W) j → ∀ {σ H Q}, t σ H Q W → WW X e σ H Q
structure SA (X : Cx) (j : Nat) (t : RA) (es : List Expr) : Prop where
  run : ∀ {W : WX}, Cn X (upW W) j → ∀ {σ H Q}, t σ H Q W → WA X es σ H Q
structure SK (X : Cx) (j : Nat) (t : RA) (es : List Keyword) : Prop where
  run : ∀ {W : WX}, Cn X (upW W) j → ∀ {σ H Q}, t σ H Q W → WK X es σ H Q
structure SS (X : Cx) (j : Nat) (t : RS) (st : Stmt) : Prop where
  run : ∀ {W : WX}, Cn X (upW W) j → Own X → ∀ {D σ H}, t D W σ H → WS X st D σ H
structure SSs (X : Cx) (j : Nat) (t : RS) (sts : List Stmt) : Prop where
  run : ∀ {W : WX}, Cn X (upW W) j → Own X → ∀ {D σ H}, t D W σ H → WSs X sts D σ H
structure SG (X : Cx) (j : Nat) (t : RG) (tg : Expr) : Prop where
  run : ∀ {W : WX}, Cn X (upW W) j → ∀ {v σ H R}, t v σ H R W → WG X tg v σ H R
structure SGs (X : Cx) (j : Nat) (t : RGs) (tg : List Expr) : Prop where
  run : ∀ {W : WX}, Cn X (upW W) j → ∀ {v σ H R}, t v σ H R W → WGs X tg v σ H R
def SO (X : Cx) (f : Value → Value → Sem Value) (r : RO) : Prop := ∀ x y H Q, r x y H Q → WO X f x y H Q
def SC (X : Cx) (fn : Value) (r : RC) : Prop := ∀ xs H Q, r xs H Q → WC X fn xs H Q
def fg (P : Hp → Prop) (H : Hp) : Prop := ∃ H', Ex H' H ∧ P H'
theorem fg.i {P : Hp → Prop} {H : Hp} (h : P H) : fg P H := ⟨H, Ex.refl H, h⟩
/-! ## slots -/
def slot : St → Nat → Option V
  | [], _ => none
  | o :: _, 0 => o
  | _ :: l, n + 1 => slot l n
theorem slot_get : ∀ {σ : St} {i : Nat} {v : V}, slot σ i = some v → σ[i]? = some (some v)
  | o :: _, 0, _, h => by simpa [slot] using h
  | _ :: l, n + 1, _, h => by simpa using slot_get (σ := l) h
def put : St → Nat → V → St
  | [], _, _ => []
  | _ :: l, 0, v => some v :: l
  | o :: l, n + 1, v => o :: put l n v
theorem put_set : ∀ {σ : St} {i : Nat} {v : V}, put σ i v = σ.set i (some v)
  | [], _, _ => rfl
  | _ :: _, 0, _ => rfl
  | o :: l, n + 1, v => by simp [put, put_set]
section
variable {X : Cx} {j : Nat} {W W1 : WX} {e a b c : Expr} {es rest : List Expr} {st : Stmt} {sts body : List Stmt} {σ : St} {H H1 : Hp} {Q : VK} {D : Ends} {pos p pos' : Pos} {t ta tb : RX} {tc td : RT} {r : RO} {n : Str} {i : Nat}
/-! ## names, constants -/
def rVar (i : Nat) : RX := fun σ H Q _ => match slot σ i with
  | some v => Q v H
  | none => False
theorem s_var {i : Nat} {n : Str} (hN : X.N[i]? = some n) (hv : Vis X.env.scope n) (hd : (n == ("__debug__" : Str)) = false := by decide) (hcd : (n == ("__classdict__" : Str)) = false := by decide) : SX X j (rVar i) (.Name n pos) := ⟨fun c σ H Q h => by
  unfold rVar at h
  cases e : slot σ i with
  | some v => rw [e] at h; exact EV.we (ev_var hN hv (slot_get e) hd hcd) h
  | none => rw [e] at h; exact h.elim⟩
def rC (v : V) : RX := fun _ H Q _ => Q v H
theorem SX.of_ev {v : V} (h : ∀ {σ H}, EV X e σ H v) : SX X j (rC v) e := ⟨fun _ _ _ _ q => h.we q⟩
theorem s_int {i : Int} {k} : SX X j (rC (.int i)) (.Constant (.int i) k pos) := .of_ev ev_int
theorem s_bl {i : Bool} {k} : SX X j (rC (.bl i)) (.Constant (.bool i) k pos) := .of_ev ev_bl
theorem s_non {k} : SX X j (rC .non) (.Constant .none k pos) := .of_ev ev_non
theorem s_str {i : Str} {k} : SX X j (rC (.str i)) (.Constant (.str i) k pos) := .of_ev ev_str
theorem s_glob {n : Str} {u : Value} {v : V} (hm : X.mg n = some u) (r : RelV v u) (hg : Gl X n := by rfl) (hd : (n == ("__debug__" : Str)) = false := by decide) : SX X j (rC v) (.Name n pos) := .of_ev (ev_glob hm r hg hd)
theorem s_globE {n : Str} {v : V} {α : Type} {f : α → Value} (hm : ∃ t, X.mg n = some (f t)) (r : ∀ t, RelV v (f t)) (hg : Gl X n := by rfl) (hd : (n == ("__debug__" : Str)) = false := by decide) : SX X j (rC v) (.Name n pos) := by
  obtain ⟨t, hm⟩ := hm
  exact .of_ev (ev_glob hm (r t) hg hd)
theorem s_ty {n : Str} {T : String} (hm : X.mg n = none) (hv : bootBuiltins n = some (.type T)) (hg : Gl X n := by rfl) (hn : n ≠ "__name__" := by decide) (hd : (n == ("__debug__" : Str)) = false := by decide) : SX X j (rC (.ty T)) (.Name n pos) := .of_ev (ev_ty hm hv hg hn hd)
/-! ## operators -/
def rBin (r : RO) (a b : RX) : RX := fun σ H Q W => a σ H (fun x H1 => b σ H1 (fun y H2 => r x y H2 Q) W) W
theorem s_bin {op : Operator} (ho : SO X (binaryOp op) r) (ha : SX X j ta a) (hb : SX X j tb b) : SX X j (rBin r ta tb) (.BinOp a op b pos) :=
  ⟨fun c _ _ _ h => we_bin ((ha.run c h).mono fun _ _ h => (hb.run c h).mono fun _ _ h => ho _ _ _ _ h)⟩
theorem s_cmp {op : CmpOp} (ho : SO X (compareOp op) r) (ha : SX X j ta a) (hb : SX X j tb b) (hm : behindInMarks op b = false := by first | exact nomark _ | with_unfolding_all rfl) : SX X j (rBin r ta tb) (.Compare a [op] [b] pos) :=
  ⟨fun c _ _ _ h => we_cmp ((ha.run c h).mono fun _ _ h => (hb.run c h).mono fun _ _ h => ho _ _ _ _ h) hm⟩
/-- of a bool -/
def ob (Q : Bool → Hp → Prop) : VK := fun x H => match x with
  | .bl k => Q k H
  | _ => False
theorem ob.get {QB : Bool → Hp → Prop} {x : V} (h : ob QB x H) : ∃ k, x = .bl k ∧ QB k H := by
  cases x <;> first | exact ⟨_, rfl, h⟩ | exact h.elim
def tCmp (r : RO) (a b : RX) : RT := fun σ H Q W => a σ H (fun x H1 => b σ H1 (fun y H2 => r x y H2 (ob Q)) W) W
theorem WO.mono {f : Value → Value → Sem Value} {x y : V} {Q1 : VK} (w : WO X f x y H Q) (k : ∀ v H, Q v H → Q1 v H) : WO X f x y H Q1 := fun H1 e pins s σ v u I rx ry => thn (w H1 e pins s σ v u I rx ry) fun u s' ⟨v, H2, I2, r, q⟩ => ⟨v, H2, I2, r, up.mono k q⟩
theorem b_cmp {op : CmpOp} (ho : SO X (compareOp op) r) (ha : SX X j ta a) (hb : SX X j tb b) (hm : behindInMarks op b = false := by first | exact nomark _ | with_unfolding_all rfl) : SB X j (tCmp r ta tb) (.Compare a [op] [b] pos) :=
  ⟨fun c _ _ _ h => wt_cmp ((ha.run c h).mono fun _ _ h => (hb.run c h).mono fun _ _ h => (ho _ _ _ _ h).mono fun _ _ h => h.get) hm⟩
/-- a op b op' c -/
def tCh (r r2 : RO) (a b c : RX) : RT := fun σ H Q W => a σ H (fun x H1 => b σ H1 (fun y H2 => r x y H2 (ob fun k H3 => (k = true → c σ H3 (fun z H4 => r2 y z H4 (ob Q)) W) ∧ (k = false → Q false H3))) W) W
theorem WE.tt (w : WE X e σ H Q) : tWE X e σ H (up Q) := ⟨H, Q, Ex.refl H, w, fun _ _ q => q⟩
theorem b_ch {op op' : CmpOp} {r2 : RO} {tcc : RX} (ho : SO X (compareOp op) r) (ho2 : SO X (compareOp op') r2) (ha : SX X j ta a) (hb : SX X j tb b) (hc : SX X j tcc c) (hm : lastMarks [op, op'] [b, c] = false := by with_unfolding_all rfl) : SB X j (tCh r r2 ta tb tcc) (.Compare a [op, op'] [b, c] pos) :=
  ⟨fun cn σ H Q h => .of (pt_chain op_W op_W pe_W pe_W pe_W hm) fun H2 e2 => (ha.run cn h).t e2 fun v H3 ⟨H3', x3, h⟩ => (hb.run cn h).t x3 fun u H4 ⟨H4', x4, h⟩ => (ho _ _ _ _ h).t x4 fun q H5 ⟨H5', x5, h⟩ => by
    obtain ⟨k, rfl, h1, h2⟩ := h.get
    refine ⟨k, rfl, ?_⟩
    cases k with
    | false => exact iteF ⟨false, rfl, _, x5, h2 rfl⟩
    | true => exact iteT ((hc.run cn (h1 rfl)).t x5 fun s H6 ⟨H6', x6, h⟩ => (ho2 _ _ _ _ h).t x6 fun z H7 ⟨H7', x7, h⟩ => by
        obtain ⟨k, rfl, h⟩ := h.get
        exact ⟨k, rfl, _, x7, h⟩)⟩
def rCh (r r2 : RO) (a b c : RX) : RX := fun σ H Q W => a σ H (fun x H1 => b σ H1 (fun y H2 => r x y H2 (ob fun k H3 => (k = true → c σ H3 (fun z H4 => r2 y z H4 Q) W) ∧ (k = false → Q (.bl false) H3))) W) W
theorem s_ch {op op' : CmpOp} {r2 : RO} {tcc : RX} (ho : SO X (compareOp op) r) (ho2 : SO X (compareOp op') r2) (ha : SX X j ta a) (hb : SX X j tb b) (hc : SX X j tcc c) (hm : lastMarks [op, op'] [b, c] = false := by with_unfolding_all rfl) : SX X j (rCh r r2 ta tb tcc) (.Compare a [op, op'] [b, c] pos) :=
  ⟨fun cn σ H Q h => .of (pe_chain op_W op_W pe_W pe_W pe_W hm) fun H2 e2 => (ha.run cn h).t e2 fun v H3 ⟨H3', x3, h⟩ => (hb.run cn h).t x3 fun u H4 ⟨H4', x4, h⟩ => (ho _ _ _ _ h).t x4 fun q H5 ⟨H5', x5, h⟩ => by
    obtain ⟨k, rfl, h1, h2⟩ := h.get
    refine ⟨k, rfl, ?_⟩
    cases k with
    | false => exact iteF ⟨_, x5, h2 rfl⟩
    | true => exact iteT ((hc.run cn (h1 rfl)).t x5 fun s H6 ⟨H6', x6, h⟩ => (ho2 _ _ _ _ h).t x6 fun z H7 h => h)⟩
def rNeg (a : RX) : RX := fun σ H Q W => a σ H (fun x H1 => match x with
  | .int i => Q (.int (-i)) H1
  | _ => False) W
theorem s_neg (ha : SX X j ta a) : SX X j (rNeg ta) (.UnaryOp .USub a pos) := ⟨fun c _ _ _ h => we_un ((ha.run c h).mono fun x H1 h => by
  cases x <;> first | exact ⟨_, un_neg, h⟩ | exact h.elim)⟩
/-! ## the operators by values -/
/-- of two ints, with what must hold of them -/
def oI (p : Int → Int → Prop) (f : Int → Int → V) : RO := fun x y H Q => match x, y with
  | .int i, .int j => p i j ∧ Q (f i j) H
  | _, _ => False
def oJ (f : Int → Int → V) : RO := fun x y H Q => match x, y with
  | .int i, .int j => Q (f i j) H
  | _, _ => False
theorem so_I {g : Value → Value → Sem Value} {p : Int → Int → Prop} {f : Int → Int → V} (h : ∀ {i j H}, p i j → EO X g (.int i) (.int j) H (f i j)) : SO X g (oI p f) := fun x y H Q q => by
  cases x <;> first | exact q.elim | skip
  cases y <;> first | exact q.elim | skip
  exact (h q.1).wo q.2
theorem so_J {g : Value → Value → Sem Value} {f : Int → Int → V} (h : ∀ {i j H}, EO X g (.int i) (.int j) H (f i j)) : SO X g (oJ f) := fun x y H Q q => by
  cases x <;> first | exact q.elim | skip
  cases y <;> first | exact q.elim | skip
  exact h.wo q
abbrev oAdd : RO := oJ fun i j => .int (i + j)
abbrev oSub : RO := oJ fun i j => .int (i - j)
abbrev oMul : RO := oI CMulX fun i j => .int (i * j)
abbrev oMod : RO := oI (fun _ j => 0 < j) fun i j => .int (i % j)
abbrev oDiv : RO := oI CDivW fun i j => .int (i / j)
abbrev oPow : RO := oI CPow fun i j => .int (i ^ j.toNat)
abbrev oShl : RO := oI CShl fun i j => .int (i * 2 ^ j.toNat)
abbrev oShr : RO := oI (fun _ j => 0 ≤ j) fun i j => .int (i / 2 ^ j.toNat)
abbrev oAnd : RO := oJ fun i j => .int (Builtin.bitAnd i j)
abbrev oLt : RO := oJ fun i j => .bl (decide (i < j))
abbrev oLe : RO := oJ fun i j => .bl (decide (i ≤ j))
abbrev oGt : RO := oJ fun i j => .bl (decide (j < i))
abbrev oGe : RO := oJ fun i j => .bl (decide (j ≤ i))
abbrev oEqI : RO := oJ fun i j => .bl (decide (i = j))
abbrev oNeI : RO := oJ fun i j => .bl (!decide (i = j))
theorem o_add : SO X (binaryOp .Add) oAdd := so_J eo_add
theorem o_sub : SO X (binaryOp .Sub) oSub := so_J eo_sub
theorem o_mul : SO X (binaryOp .Mult) oMul := so_I eo_mulX
theorem o_mod : SO X (binaryOp .Mod) oMod := so_I eo_mod
theorem o_div : SO X (binaryOp .FloorDiv) oDiv := so_I eo_fdiv
theorem o_pow : SO X (binaryOp .Pow) oPow := so_I eo_pow
theorem o_shl : SO X (binaryOp .LShift) oShl := so_I eo_shl
theorem o_shr : SO X (binaryOp .RShift) oShr := so_I eo_shr
theorem o_and : SO X (binaryOp .BitAnd) oAnd := so_J eo_and
theorem o_lt : SO X (compareOp .Lt) oLt := so_J eo_lt
theorem o_le : SO X (compareOp .LtE) oLe := so_J eo_le
theorem o_gt : SO X (compareOp .Gt) oGt := so_J eo_gt
theorem o_ge : SO X (compareOp .GtE) oGe := so_J eo_ge
theorem o_eqI : SO X (compareOp .Eq) oEqI := so_J eo_eqI
theorem o_neI : SO X (compareOp .NotEq) oNeI := so_J eo_neI
theorem i_add : SO X (inplaceOp .Add) oAdd := so_J ip_add
theorem i_sub : SO X (inplaceOp .Sub) oSub := so_J ip_sub
theorem i_shr : SO X (inplaceOp .RShift) oShr := so_I ip_shr
theorem i_mul : SO X (inplaceOp .Mult) (oI CMul fun i j => .int (i * j)) := so_I ip_mul
abbrev oMulI : RO := oI CMul fun i j => .int (i * j)
/-- two texts -/
def oS (f : Str → Str → V) : RO := fun x y H Q => match x, y with
  | .str i, .str j => Q (f i j) H
  | _, _ => False
theorem so_S {g : Value → Value → Sem Value} {f : Str → Str → V} (h : ∀ {i j H}, EO X g (.str i) (.str j) H (f i j)) : SO X g (oS f) := fun x y H Q q => by
  cases x <;> first | exact q.elim | skip
  cases y <;> first | exact q.elim | skip
  exact h.wo q
abbrev oEqS : RO := oS fun i j => .bl (decide (i = j))
abbrev oNeS : RO := oS fun i j => .bl (!decide (i = j))
theorem o_eqS : SO X (compareOp .Eq) oEqS := so_S eo_eqS
theorem o_neS : SO X (compareOp .NotEq) oNeS := so_S eo_neS
/-- scalars of any kind -/
def oEq : RO := fun x y H Q => scal x y = true ∧ Q (.bl (decide (x = y))) H
def oNe : RO := fun x y H Q => scal x y = true ∧ Q (.bl (!decide (x = y))) H
theorem o_eq : SO X (compareOp .Eq) oEq := fun _ _ _ _ q => (eo_eq q.1).wo q.2
theorem o_ne : SO X (compareOp .NotEq) oNe := fun _ _ _ _ q => (eo_ne q.1).wo q.2
def oIs : RO := fun x y H Q => y = .non ∧ Q (.bl (decide (x = .non))) H
def oIsN : RO := fun x y H Q => y = .non ∧ Q (.bl (!decide (x = .non))) H
theorem o_is : SO X (compareOp .Is) oIs := fun _ _ _ _ q => by
  obtain ⟨rfl, q⟩ := q
  exact eo_isN.wo q
theorem o_isN : SO X (compareOp .IsNot) oIsN := fun _ _ _ _ q => by
  obtain ⟨rfl, q⟩ := q
  exact eo_notN.wo q
/-- two lists -/
def oCat : RO := fun x y H Q => ∃ a b xs ys, x = .ref a ∧ y = .ref b ∧ H a = some (.lst xs) ∧ H b = some (.lst ys) ∧ xs.length + ys.length ≤ 1000000 ∧ ∀ p, H p = none → Q (.ref p) (upd H p (.lst (xs ++ ys)))
theorem o_cat : SO X (binaryOp .Add) oCat := fun _ _ _ _ ⟨_, _, _, _, e1, e2, h1, h2, hz, q⟩ => by subst e1; subst e2; exact wo_cat h1 h2 hz q
/-- membership: flat things -/
def oInL (K : PySem.W.Frag) : RO := fun x y H Q => ∃ q xs, y = .ref q ∧ SqL K H q xs ∧ flatV x = true ∧ xs.all flatV = true ∧ Q (.bl (inV x xs)) H
def oInT (K : PySem.W.Frag) : RO := fun x y H Q => ∃ q xs, y = .ref q ∧ SqT K H q xs ∧ flatV x = true ∧ xs.all flatV = true ∧ Q (.bl (inV x xs)) H
def oNiL (K : PySem.W.Frag) : RO := fun x y H Q => ∃ q xs, y = .ref q ∧ SqL K H q xs ∧ flatV x = true ∧ xs.all flatV = true ∧ Q (.bl (!inV x xs)) H
def oNiT (K : PySem.W.Frag) : RO := fun x y H Q => ∃ q xs, y = .ref q ∧ SqT K H q xs ∧ flatV x = true ∧ xs.all flatV = true ∧ Q (.bl (!inV x xs)) H
theorem o_inL : SO X (compareOp .In) (oInL X.K) := fun _ _ _ _ ⟨_, _, e, h, h1, h2, q⟩ => by subst e; exact (eo_inL h h1 h2).wo q
theorem o_inT : SO X (compareOp .In) (oInT X.K) := fun _ _ _ _ ⟨_, _, e, h, h1, h2, q⟩ => by subst e; exact (eo_inT h h1 h2).wo q
theorem o_niL : SO X (compareOp .NotIn) (oNiL X.K) := fun _ _ _ _ ⟨_, _, e, h, h1, h2, q⟩ => by subst e; exact (eo_ninL h h1 h2).wo q
theorem o_niT : SO X (compareOp .NotIn) (oNiT X.K) := fun _ _ _ _ ⟨_, _, e, h, h1, h2, q⟩ => by subst e; exact (eo_ninT h h1 h2).wo q
/-! ## tests, and, or, not, if -/
def tV (t : RX) : RT := fun σ H Q W => t σ H (ob Q) W
theorem b_val (h : SX X j t e) (he : ∀ whole, isTrue e X.env whole = (do let v ← whole; standAt e.pos; holding [v] (truthy v)) := by intro _; rfl) : SB X j (tV t) e := ⟨fun c _ _ _ q => wt_val ((h.run c q).mono fun _ _ q => q.get) he⟩
def tTr (K : PySem.W.Frag) (t : RX) : RT := fun σ H Q W => t σ H (fun x H1 => ∃ k, TruE K x H1 k ∧ Q k H1) W
theorem b_tr (h : SX X j t e) (he : ∀ whole, isTrue e X.env whole = (do let v ← whole; standAt e.pos; holding [v] (truthy v)) := by intro _; rfl) : SB X j (tTr X.K t) e :=
  ⟨fun c σ H Q q => .of (pt_truth pe_W he) fun H2 x2 => (h.run c q).t x2 fun v H3 ⟨H4, x4, k, ht, q⟩ => ⟨k, ht _ x4, H4, x4, q⟩⟩
def tNot (t : RT) : RT := fun σ H Q W => t σ H (fun k H1 => Q (!k) H1) W
theorem b_not (h : SB X j tc a) : SB X j (tNot tc) (.UnaryOp .Not a pos) := ⟨fun c _ _ _ q => wt_not (h.run c q)⟩
def tAnd (t u : RT) : RT := fun σ H Q W => t σ H (fun k H1 => (k = true → u σ H1 Q W) ∧ (k = false → Q false H1)) W
def tOr (t u : RT) : RT := fun σ H Q W => t σ H (fun k H1 => (k = true → Q true H1) ∧ (k = false → u σ H1 Q W)) W
theorem WT.mono {QB QB1 : Bool → Hp → Prop} (w : WT X e σ H QB) (k : ∀ v H, QB v H → QB1 v H) : WT X e σ H QB1 := fun H1 x pins s I => thn (w H1 x pins s I) fun u s' ⟨H2, I2, H3, x3, q⟩ => ⟨H2, I2, H3, x3, k _ _ q⟩
theorem w_and1 (h : SB X j tc a) : SW X j tc (.BoolOp .And [a] pos) := ⟨fun c _ _ _ q => ww_and1 (h.run c q)⟩
theorem w_or1 (h : SB X j tc a) : SW X j tc (.BoolOp .Or [a] pos) := ⟨fun c _ _ _ q => ww_or1 (h.run c q)⟩
theorem w_and (h : SB X j tc a) (h2 : SW X j td (.BoolOp .And (b :: rest) pos)) : SW X j (tAnd tc td) (.BoolOp .And (a :: b :: rest) pos) := ⟨fun c _ _ _ q => ww_and ((h.run c q).mono fun k H q => by
  cases k with
  | true => rw [if_pos rfl]; exact h2.run c (q.1 rfl)
  | false => exact iteF (q.2 rfl))⟩
theorem w_or (h : SB X j tc a) (h2 : SW X j td (.BoolOp .Or (b :: rest) pos)) : SW X j (tOr tc td) (.BoolOp .Or (a :: b :: rest) pos) := ⟨fun c _ _ _ q => ww_or ((h.run c q).mono fun k H q => by
  cases k with
  | true => exact iteT (q.1 rfl)
  | false => rw [if_neg (by decide)]; exact h2.run c (q.2 rfl))⟩
theorem b_ww (h : SW X j tc e) : SB X j tc e := ⟨fun c _ _ _ q => wt_ww (h.run c q)⟩
/-- as values (bools) -/
def rAnd (a b : RX) : RX := fun σ H Q W => a σ H (ob fun k H1 => (k = true → b σ H1 Q W) ∧ (k = false → Q (.bl false) H1)) W
def rOr (a b : RX) : RX := fun σ H Q W => a σ H (ob fun k H1 => (k = true → Q (.bl true) H1) ∧ (k = false → b σ H1 Q W)) W
theorem s_one {op} (h : SX X j t a) : SX X j t (.BoolOp op [a] pos) := ⟨fun c _ _ _ q => we_one (h.run c q)⟩
theorem s_and (h : SX X j ta a) (h2 : SX X j tb (.BoolOp .And (b :: rest) pos)) : SX X j (rAnd ta tb) (.BoolOp .And (a :: b :: rest) pos) := ⟨fun c _ _ _ q => we_andV ((h.run c q).mono fun x H q => by
  obtain ⟨k, rfl, q⟩ := q.get
  refine ⟨k, rfl, ?_⟩
  cases k with
  | true => rw [if_pos rfl]; exact h2.run c (q.1 rfl)
  | false => exact iteF (q.2 rfl))⟩
theorem s_or (h : SX X j ta a) (h2 : SX X j tb (.BoolOp .Or (b :: rest) pos)) : SX X j (rOr ta tb) (.BoolOp .Or (a :: b :: rest) pos) := ⟨fun c _ _ _ q => we_orV ((h.run c q).mono fun x H q => by
  obtain ⟨k, rfl, q⟩ := q.get
  refine ⟨k, rfl, ?_⟩
  cases k with
  | true => exact iteT (q.1 rfl)
  | false => rw [if_neg (by decide)]; exact h2.run c (q.2 rfl))⟩
def rNot (a : RX) : RX := fun σ H Q W => a σ H (ob fun k H1 => Q (.bl (!k)) H1) W
theorem s_not (h : SX X j ta a) : SX X j (rNot ta) (.UnaryOp .Not a pos) := ⟨fun c _ _ _ q => .of (pe_not pe_W) fun H2 x2 => (h.run c q).t x2 fun v H3 ⟨H4, x4, q⟩ => by
  obtain ⟨k, rfl, q⟩ := q.get
  exact ⟨k, rfl, H4, x4, q⟩⟩
def rIf (t : RT) (a b : RX) : RX := fun σ H Q W => t σ H (fun k H1 => (k = true → a σ H1 Q W) ∧ (k = false → b σ H1 Q W)) W
theorem s_if (h : SB X j tc c) (ha : SX X j ta a) (hb : SX X j tb b) : SX X j (rIf tc ta tb) (.IfExp c a b pos) := ⟨fun c _ _ _ q => we_if ((h.run c q).mono fun k H q => by
  cases k with
  | true => rw [if_pos rfl]; exact ha.run c (q.1 rfl)
  | false => rw [if_neg (by decide)]; exact hb.run c (q.2 rfl))⟩
/-! ## arguments, displays, subscripts -/
def aNil : RA := fun _ H Q _ => Q [] H
def aCons (e : RX) (r : RA) : RA := fun σ H Q W => e σ H (fun x H1 => r σ H1 (fun xs H2 => Q (x :: xs) H2) W) W
theorem WA.mono {QA QA1 : List V → Hp → Prop} (w : WA X es σ H QA) (k : ∀ v H, QA v H → QA1 v H) : WA X es σ H QA1 := fun H1 x pos pins s I => thn (w H1 x pos pins s I) fun u s' ⟨v, H2, I2, r, H3, x3, q⟩ => ⟨v, H2, I2, r, H3, x3, k _ _ q⟩
theorem a_nil : SA X j aNil [] := ⟨fun _ _ _ _ q => wa_nil q⟩
theorem a_cons {tr : RA} (h : SX X j t e) (hr : SA X j tr es) (hs : starEach (e :: es) X.env = (false, eval e X.env) :: starEach es X.env := by rfl) : SA X j (aCons t tr) (e :: es) := ⟨fun c _ _ _ q => wa_cons ((h.run c q).mono fun _ _ q => hr.run c q) hs⟩
def rLst (t : RA) : RX := fun σ H Q W => t σ H (fun xs H1 => xs.length ≤ 100000 ∧ ∀ p, H1 p = none → Q (.ref p) (upd H1 p (.lst xs))) W
def rTup (t : RA) : RX := fun σ H Q W => t σ H (fun xs H1 => xs.length ≤ 100000 ∧ ∀ p, H1 p = none → Q (.ref p) (upd H1 p (.tup xs))) W
theorem s_lst {tr : RA} (h : SA X j tr es) : SX X j (rLst tr) (.List es pos) := ⟨fun c _ _ _ q => we_lst ((h.run c q).mono fun _ _ q => ⟨small q.1, q.2⟩)⟩
theorem s_tup {tr : RA} {x1} (h : SA X j tr es) : SX X j (rTup tr) (.Tuple es x1 pos) := ⟨fun c _ _ _ q => we_tup ((h.run c q).mono fun _ _ q => ⟨small q.1, q.2⟩)⟩
def rDct0 : RX := fun _ H Q _ => ∀ p, H p = none → Q (.ref p) (upd H p (.dK []))
theorem s_dct0 : SX X j rDct0 (.Dict [] [] pos) := ⟨fun _ _ _ _ q => en_dict0.we q⟩
def oIxL (K : PySem.W.Frag) : RO := fun x y H Q => ∃ p xs i v, x = .ref p ∧ y = .int i ∧ SqL K H p xs ∧ atI xs i = some v ∧ Q v H
def oIxT (K : PySem.W.Frag) : RO := fun x y H Q => ∃ p xs i v, x = .ref p ∧ y = .int i ∧ SqT K H p xs ∧ atI xs i = some v ∧ Q v H
def oIxS : RO := fun x y H Q => ∃ z i n, x = .str z ∧ y = .int i ∧ z.length ≤ sizeLine ∧ atI z.cps.toList i = some n ∧ Q (.str ⟨#[n]⟩) H
def SI (X : Cx) (r : RO) : Prop := ∃ r0, IxR X r0 ∧ ∀ x y H Q, r x y H Q → ∀ H3, Ex H H3 → r0 x y H3 (up Q)
theorem x_lst : SI X (oIxL X.K) := ⟨_, ix_list, fun _ _ H _ ⟨p, xs, i, v, e1, e2, h, hi, q⟩ H3 x => ⟨p, xs, i, v, e1, e2, x.sqL h, hi, H, x, q⟩⟩
theorem x_tup : SI X (oIxT X.K) := ⟨_, ix_tup, fun _ _ H _ ⟨p, xs, i, v, e1, e2, h, hi, q⟩ H3 x => ⟨p, xs, i, v, e1, e2, x.sqT h, hi, H, x, q⟩⟩
theorem x_str : SI X oIxS := ⟨_, ix_str, fun _ _ H _ ⟨z, i, n, e1, e2, h, hi, q⟩ H3 x => ⟨z, i, n, e1, e2, h, hi, H, x, q⟩⟩
theorem s_ix (hr : SI X r) (ha : SX X j ta a) (hb : SX X j tb b) (hs : PlainIx b := by intro _ _; rfl) : SX X j (rBin r ta tb) (.Subscript a b pos) := by
  obtain ⟨r0, h0, k⟩ := hr
  exact ⟨fun c _ _ _ h => we_ix h0 ((ha.run c h).mono fun _ _ h => (hb.run c h).mono fun _ _ h => k _ _ _ _ h) hs⟩
/-! ## calls -/
def rCall (sp : Sp) (dvs : List V) (t : RA) : RX := fun σ H Q W => t σ H (fun vs H1 => sp (vs ++ dvs) H1 Q fun c d H' => W c d σ H') W
theorem run_fngU {vs dvs : List V} {k : Nat} {f : Addr} {fd : FuncData} {ps : List Str} {sp : Sp} {us ds : List Value} {pins : List (Addr × Obj)} {s : Shared} (F : FnG X.prog X.w X.K X.mg X.base k f fd ps sp) (c : Cn X (upW W) k) (hb : Binds X.K fd ps ds) (hd : Vals dvs ds) (I : Inv X pins σ H1 s) (x : Ex H H1) (r : Vals vs us) (h : sp (vs ++ dvs) H Q fun c d H' => W c d σ H') :
    wpAny (model X.prog X.w) X.A (call (.ref f) us) (EP X pins σ (up Q)) X.xe s := by
  have r2 := r.append hd
  have hl : (us ++ ds).length = ps.length := r2.length.symm.trans (F.len _ _ _ _ h)
  refine wpAny_call (codeAny_mono (F.run X.A X.stack s H1 ⟨us, []⟩ (us ++ ds) (vs ++ dvs) H Q _ c.room c.gd I.env0 (hb s us I.kIn hl) r2 x h) fun res s' q => ?_)
  rcases res with er | fl
  · exact c.tk er s' (XE.of_call I (fun cl d H' ⟨H2, x2, q2⟩ => ⟨H2, x2, q2⟩) q)
  · cases fl with
    | ret u => exact I.after q
    | _ => exact q.elim
theorem s_call {sp : Sp} {k : Nat} {ps : List Str} {dvs : List V} {tr : RA} (C : Cal X.prog X.w X.K X.mg X.base n k ps dvs sp) (h : SA X j tr (e :: es)) (hkj : k ≤ j := by decide) (hg : Gl X n := by rfl) (hdb : (n == ("__debug__" : Str)) = false := by decide)
    (he : starEach (e :: es) X.env = (false, eval e X.env) :: starEach es X.env := by rfl) (hpl : (backTo pos (starEach es X.env)).any (·.1) = false := by rfl) : SX X j (rCall sp dvs tr) (.Call (.Name n p) (e :: es) [] pos) := by
  obtain ⟨f, fd, ds, F, hm, hk, hb, hd, _⟩ := C.ex
  refine ⟨fun c σ H Q q H1 x pins s I => ?_⟩
  refine wpAny_Call_Name_kw (ld_glob I hg hm (PySem.W.callWith_K (h₀ := X.base) I.ok.mod.kin hk (thn (h.run c q H1 x pos pins s I) fun us s1 ⟨vs, H2, I2, r, H3, x3, q⟩ => ⟨I2.kIn, ?_⟩) he hpl) hdb)
  exact run_fngU F (c.mono hkj) hb hd I2 x3 r q
theorem s_call0 {sp : Sp} {k : Nat} {ps : List Str} {dvs : List V} (C : Cal X.prog X.w X.K X.mg X.base n k ps dvs sp) (hkj : k ≤ j := by decide) (hg : Gl X n := by rfl) (hdb : (n == ("__debug__" : Str)) = false := by decide) : SX X j (rCall sp dvs aNil) (.Call (.Name n p) [] [] pos) := by
  obtain ⟨f, fd, ds, F, hm, hk, hb, hd, _⟩ := C.ex
  refine ⟨fun c σ H Q q H1 x pins s I => ?_⟩
  exact wpAny_Call_Name_kw (ld_glob I hg hm (PySem.W.callWith_K0 I.kIn hk (run_fngU (us := []) (vs := []) F (c.mono hkj) hb hd I x .nil q)) hdb)
/-- with keywords -/
def kNil : RA := aNil
def rCallK (sp : Sp) (gV : List V → List V → List V) (t tk : RA) : RX := fun σ H Q W => t σ H (fun vs H1 => tk σ H1 (fun zs H2 => sp (gV vs zs) H2 Q fun c d H' => W c d σ H') W) W
theorem k_nil : SK X j aNil [] := ⟨fun _ _ _ _ q => wk_nil q⟩
theorem k_cons {kws : List Keyword} {nm : Option Str} {kpos : Pos} {tr : RA} (h : SX X j t e) (hr : SK X j tr kws) : SK X j (aCons t tr) (⟨nm, e, kpos⟩ :: kws) := ⟨fun c _ _ _ q => wk_cons ((h.run c q).mono fun _ _ q => hr.run c q)⟩
end
section
variable {X : Cx} {j : Nat} {W W1 : WX} {e a b c tg iter : Expr} {es rest tgs : List Expr} {st : Stmt} {sts body : List Stmt} {σ : St} {H H1 : Hp} {Q : VK} {D : Ends} {pos p pos' pos2 : Pos} {t ta tb : RX} {tc td : RT} {r : RO} {n : Str} {i : Nat} {zs zt : RS} {tr : RA} {rc : RC} {g g2 : RG} {gs : RGs}
/-! ## builtins by name -/
def rB (r : RC) (t : RA) : RX := fun σ H Q W => t σ H (fun vs H1 => r vs H1 Q) W
theorem s_bi {id : String} (hc : SC X (.builtin id) rc) (hm : X.mg n = none) (hv : bootBuiltins n = some (.builtin id)) (ha : SA X j tr (e :: es)) (hg : Gl X n := by rfl) (hn : n ≠ "__name__" := by decide) (hdb : (n == ("__debug__" : Str)) = false := by decide)
    (he : starEach (e :: es) X.env = (false, eval e X.env) :: starEach es X.env := by rfl) (hpl : (backTo pos (starEach es X.env)).any (·.1) = false := by rfl) : SX X j (rB rc tr) (.Call (.Name n p) (e :: es) [] pos) :=
  ⟨fun c _ _ _ q => we_callB hm hv ((ha.run c q).mono fun _ _ q => hc _ _ _ q) hg hn hdb he hpl⟩
theorem s_bt {T : String} (hc : SC X (.type T) rc) (hm : X.mg n = none) (hv : bootBuiltins n = some (.type T)) (ha : SA X j tr (e :: es)) (hg : Gl X n := by rfl) (hn : n ≠ "__name__" := by decide) (hdb : (n == ("__debug__" : Str)) = false := by decide)
    (he : starEach (e :: es) X.env = (false, eval e X.env) :: starEach es X.env := by rfl) (hpl : (backTo pos (starEach es X.env)).any (·.1) = false := by rfl) : SX X j (rB rc tr) (.Call (.Name n p) (e :: es) [] pos) :=
  ⟨fun c _ _ _ q => we_callTy hm hv ((ha.run c q).mono fun _ _ q => hc _ _ _ q) hg hn hdb he hpl⟩
/-- one value -/
def c1 (f : V → Hp → VK → Prop) : RC := fun vs H Q => match vs with
  | [x] => f x H Q
  | _ => False
def c2 (f : V → V → Hp → VK → Prop) : RC := fun vs H Q => match vs with
  | [x, y] => f x y H Q
  | _ => False
theorem sc1 {fn : Value} {f : V → Hp → VK → Prop} (h : ∀ x H Q, f x H Q → WC X fn [x] H Q) : SC X fn (c1 f) := fun xs H Q q => by
  cases xs with
  | nil => exact q.elim
  | cons x r => cases r with
    | nil => exact h _ _ _ q
    | cons _ _ => exact q.elim
theorem sc2 {fn : Value} {f : V → V → Hp → VK → Prop} (h : ∀ x y H Q, f x y H Q → WC X fn [x, y] H Q) : SC X fn (c2 f) := fun xs H Q q => by
  cases xs with
  | nil => exact q.elim
  | cons x r => cases r with
    | nil => exact q.elim
    | cons y r => cases r with
      | nil => exact h _ _ _ _ q
      | cons _ _ => exact q.elim
def vI (k : Int → Hp → VK → Prop) : V → Hp → VK → Prop := fun x H Q => match x with
  | .int i => k i H Q
  | _ => False
def cAbs : RC := c1 (vI fun i H Q => Q (.int (if i < 0 then -i else i)) H)
theorem c_abs : SC X (.builtin "abs") cAbs := sc1 fun x H Q q => by
  cases x <;> first | exact ec_abs.wc q | exact q.elim
def cMax : RC := c2 (oJ fun i j => .int (if j > i then j else i))
def cMin : RC := c2 (oJ fun i j => .int (if j < i then j else i))
theorem c_max (hc : X.calm = true := by rfl) : SC X (.builtin "max") cMax := sc2 fun x y H Q q => by
  cases x <;> first | exact q.elim | skip
  cases y <;> first | exact q.elim | skip
  exact (ec_max hc).wc q
theorem c_min (hc : X.calm = true := by rfl) : SC X (.builtin "min") cMin := sc2 fun x y H Q q => by
  cases x <;> first | exact q.elim | skip
  cases y <;> first | exact q.elim | skip
  exact (ec_min hc).wc q
def cLenL (K : PySem.W.Frag) : RC := c1 fun x H Q => ∃ p xs, x = .ref p ∧ SqL K H p xs ∧ Q (.int xs.length) H
def cLenT (K : PySem.W.Frag) : RC := c1 fun x H Q => ∃ p xs, x = .ref p ∧ SqT K H p xs ∧ Q (.int xs.length) H
def cLenD : RC := c1 fun x H Q => ∃ p kvs, x = .ref p ∧ H p = some (.dK kvs) ∧ Q (.int kvs.length) H
def cLenS : RC := c1 fun x H Q => ∃ z, x = .str z ∧ z.length ≤ sizeLine ∧ Q (.int z.length) H
theorem c_lenL : SC X (.builtin "len") (cLenL X.K) := sc1 fun x H Q ⟨p, xs, e, h, q⟩ => by subst e; exact (ec_lenL h).wc q
theorem c_lenT : SC X (.builtin "len") (cLenT X.K) := sc1 fun x H Q ⟨p, xs, e, h, q⟩ => by subst e; exact (ec_lenT h).wc q
theorem c_lenD : SC X (.builtin "len") cLenD := sc1 fun x H Q ⟨p, xs, e, h, q⟩ => by subst e; exact (ec_lenD h).wc q
theorem c_lenS : SC X (.builtin "len") cLenS := sc1 fun x H Q ⟨p, e, h, q⟩ => by subst e; exact (ec_lenS h).wc q
def cSum (K : PySem.W.Frag) : RC := c1 fun x H Q => ∃ (p : Addr) (ns : List Int), x = .ref p ∧ SqL K H p (ns.map V.int) ∧ Q (.int ns.sum) H
def cSumB (K : PySem.W.Frag) : RC := c1 fun x H Q => ∃ (p : Addr) (bs : List Bool), x = .ref p ∧ SqL K H p (bs.map V.bl) ∧ bs.length ≤ 1000000 ∧ Q (.int (bs.map b2n).sum) H
def cAll (K : PySem.W.Frag) : RC := c1 fun x H Q => ∃ (p : Addr) (ns : List Bool), x = .ref p ∧ SqL K H p (ns.map V.bl) ∧ Q (.bl (ns.all id)) H
def cAny (K : PySem.W.Frag) : RC := c1 fun x H Q => ∃ (p : Addr) (ns : List Bool), x = .ref p ∧ SqL K H p (ns.map V.bl) ∧ Q (.bl (ns.any id)) H
theorem c_sum (hc : X.calm = true := by rfl) : SC X (.builtin "sum") (cSum X.K) := sc1 fun x H Q ⟨p, xs, e, h, q⟩ => by subst e; exact (ec_sum h hc).wc q
theorem c_sumB (hc : X.calm = true := by rfl) : SC X (.builtin "sum") (cSumB X.K) := sc1 fun x H Q ⟨p, xs, e, h, hn, q⟩ => by subst e; exact (ec_sumB h hn hc).wc q
theorem c_all (hc : X.calm = true := by rfl) : SC X (.builtin "all") (cAll X.K) := sc1 fun x H Q ⟨p, xs, e, h, q⟩ => by subst e; exact (ec_all h hc).wc q
theorem c_any (hc : X.calm = true := by rfl) : SC X (.builtin "any") (cAny X.K) := sc1 fun x H Q ⟨p, xs, e, h, q⟩ => by subst e; exact (ec_any h hc).wc q
def cDivmod : RC := c2 fun x y H Q => match x, y with
  | .int i, .int j => CDivP i j ∧ ∀ p, H p = none → Q (.ref p) (upd H p (.tup [.int (i / j), .int (i % j)]))
  | _, _ => False
theorem c_divmod : SC X (.builtin "divmod") cDivmod := sc2 fun x y H Q q => by
  cases x <;> first | exact q.elim | skip
  cases y <;> first | exact q.elim | skip
  exact (cn_divmod q.1).wc q.2
def cListL (K : PySem.W.Frag) : RC := c1 fun x H Q => ∃ p xs, x = .ref p ∧ SqL K H p xs ∧ ∀ q, H q = none → Q (.ref q) (upd H q (.lst xs))
def cListT (K : PySem.W.Frag) : RC := c1 fun x H Q => ∃ p xs, x = .ref p ∧ SqT K H p xs ∧ ∀ q, H q = none → Q (.ref q) (upd H q (.lst xs))
def cTupL (K : PySem.W.Frag) : RC := c1 fun x H Q => ∃ p xs, x = .ref p ∧ SqL K H p xs ∧ ∀ q, H q = none → Q (.ref q) (upd H q (.tup xs))
def cTupT (K : PySem.W.Frag) : RC := c1 fun x H Q => ∃ p xs, x = .ref p ∧ SqT K H p xs ∧ Q x H
theorem c_listL : SC X (.type "list") (cListL X.K) := sc1 fun x H Q ⟨p, xs, e, h, q⟩ => by subst e; exact (cn_listL h).wc q
theorem c_listT : SC X (.type "list") (cListT X.K) := sc1 fun x H Q ⟨p, xs, e, h, q⟩ => by subst e; exact (cn_listT h).wc q
theorem c_tupL : SC X (.type "tuple") (cTupL X.K) := sc1 fun x H Q ⟨p, xs, e, h, q⟩ => by subst e; exact (cn_tupleL h).wc q
theorem c_tupT : SC X (.type "tuple") (cTupT X.K) := sc1 fun x H Q ⟨p, xs, e, h, q⟩ => by subst e; exact (ec_tupleT h).wc q
def cInt : RC := c1 fun x H Q => match x with
  | .int i => Q (.int i) H
  | .bl k => Q (.int (if k = true then 1 else 0)) H
  | _ => False
theorem c_int : SC X (.type "int") cInt := sc1 fun x H Q q => by
  cases x <;> first | exact ec_intI.wc q | exact ec_intB.wc q | exact q.elim
def cIsT : RC := c2 fun x y H Q => ∃ T U, Ty H x T ∧ y = .ty U ∧ (U = "int" ∨ U = "bool" ∨ U = "str" ∨ U = "list" ∨ U = "tuple" ∨ U = "dict") ∧ Q (.bl (tyIs T U)) H
theorem c_isT : SC X (.builtin "isinstance") cIsT := sc2 fun x y H Q ⟨T, U, h, e, hU, q⟩ => by subst e; exact (ec_isT h hU).wc q
def cRepr (K : PySem.W.Frag) : RC := c1 fun x H Q => ∃ d, Dp K H x d ∧ RpOk d ∧ Q (.str d.shown) H
theorem s_repr (hm : X.mg "repr" = none) (ha : SA X j tr [e]) (hg : Gl X "repr" := by rfl) (he : starEach [e] X.env = (false, eval e X.env) :: starEach [] X.env := by rfl) (hpl : (backTo pos (starEach [] X.env)).any (·.1) = false := by rfl) : SX X j (rB (cRepr X.K) tr) (.Call (.Name "repr" p) [e] [] pos) :=
  ⟨fun c _ _ _ q => we_callB hm PyProof.Rows.boot_repr ((ha.run c q).mono fun vs H q => by
    cases vs with
    | nil => exact q.elim
    | cons x r => cases r with
      | nil =>
        obtain ⟨d, h, ok, q⟩ := q
        exact (ec_repr c h ok).wc q
      | cons _ _ => exact q.elim) hg (by decide) (by decide) he hpl⟩
/-- n.bit_length() -/
def rBits (t : RX) : RX := fun σ H Q W => t σ H (fun x H1 => vI (fun i H Q => Q (.int (Builtin.Int.intBits i : Nat)) H) x H1 Q) W
theorem s_bits {apos : Pos} (ha : SX X j ta a) (hbase : attributeBase a "bit_length" X.env (eval a X.env) = eval a X.env := by rfl) (hline : (apos.endLine == pos.line) = true := by rfl) : SX X j (rBits ta) (.Call (.Attribute a "bit_length" apos) [] [] pos) := ⟨fun c _ _ _ q =>
  .of (pe_bits pe_W hbase hline) fun H2 x2 => (ha.run c q).t x2 fun v H3 ⟨H4, x4, q⟩ => by
    cases v <;> first | exact ⟨_, rfl, H4, x4, q⟩ | exact q.elim⟩
/-! ## methods of lists -/
def rAppend (o e : RX) : RX := fun σ H Q W => o σ H (fun v H1 => e σ H1 (fun y H2 => ∃ l ys, v = .ref l ∧ (∃ xs, H1 l = some (.lst xs)) ∧ H2 l = some (.lst ys) ∧ ys.length ≤ 100000 ∧ Q .non (upd H2 l (.lst (ys ++ [y])))) W) W
/-- the receiver is a name -/
def rAppV (i : Nat) (e : RX) : RX := fun σ H Q W => match slot σ i with
  | some (.ref l) => (∃ xs, H l = some (.lst xs)) ∧ e σ H (fun y H2 => ∃ ys, H2 l = some (.lst ys) ∧ ys.length ≤ 100000 ∧ Q .non (upd H2 l (.lst (ys ++ [y])))) W
  | _ => False
theorem s_appV {apos cpos : Pos} (hN : X.N[i]? = some n) (hv : Vis X.env.scope n) (he : SX X j t e) (hd : (n == ("__debug__" : Str)) = false := by decide) (hcd : (n == ("__classdict__" : Str)) = false := by decide)
    (hbase : attributeBase (.Name n p) "append" X.env (eval (.Name n p) X.env) = eval (.Name n p) X.env := by rfl)
    (hfew : ((backTo cpos (starEach [e] X.env)).all (fun x => !x.1) && (backToKw cpos (keywordEach [] X.env)).all (fun x => x.1.isSome)
      && decide ([e].length + ([] : List Keyword).length + (if ([] : List Keyword).isEmpty then 0 else 1) < 30)) = true := by rfl)
    (hline : (apos.endLine == cpos.line) = true := by rfl) (hs : starEach [e] X.env = (false, eval e X.env) :: starEach [] X.env := by rfl) (hplain : (backTo cpos (starEach [] X.env)).any (·.1) = false := by rfl) :
    SX X j (rAppV i t) (.Call (.Attribute (.Name n p) "append" apos) [e] [] cpos) := ⟨fun c _ _ _ q => by
  unfold rAppV at q
  split at q
  · rename_i l h
    obtain ⟨⟨xs, hl⟩, q⟩ := q
    exact we_append (ev_var hN hv (slot_get h) hd hcd) hl (he.run c q) hbase hfew hline hs hplain
  · exact q.elim⟩
def rExtV (i : Nat) (e : RX) : RX := fun σ H Q W => match slot σ i with
  | some (.ref l) => (∃ xs, H l = some (.lst xs)) ∧ e σ H (fun y H2 => ∃ b ys zs, y = .ref b ∧ H2 l = some (.lst ys) ∧ H2 b = some (.lst zs) ∧ ys.length + zs.length ≤ 1000000 ∧ Q .non (upd H2 l (.lst (ys ++ zs)))) W
  | _ => False
theorem s_extV {apos cpos : Pos} (hN : X.N[i]? = some n) (hv : Vis X.env.scope n) (he : SX X j t e) (hd : (n == ("__debug__" : Str)) = false := by decide) (hcd : (n == ("__classdict__" : Str)) = false := by decide)
    (hbase : attributeBase (.Name n p) "extend" X.env (eval (.Name n p) X.env) = eval (.Name n p) X.env := by rfl)
    (hfew : ((backTo cpos (starEach [e] X.env)).all (fun x => !x.1) && (backToKw cpos (keywordEach [] X.env)).all (fun x => x.1.isSome)
      && decide ([e].length + ([] : List Keyword).length + (if ([] : List Keyword).isEmpty then 0 else 1) < 30)) = true := by rfl)
    (hline : (apos.endLine == cpos.line) = true := by rfl) (hs : starEach [e] X.env = (false, eval e X.env) :: starEach [] X.env := by rfl) (hplain : (backTo cpos (starEach [] X.env)).any (·.1) = false := by rfl) :
    SX X j (rExtV i t) (.Call (.Attribute (.Name n p) "extend" apos) [e] [] cpos) := ⟨fun c _ _ _ q => by
  unfold rExtV at q
  split at q
  · rename_i l h
    obtain ⟨⟨xs, hl⟩, q⟩ := q
    exact we_extend (ev_var hN hv (slot_get h) hd hcd) hl (he.run c q) hbase hfew hline hs hplain
  · exact q.elim⟩
/-! ## statements -/
def zNil : RS := fun D _ σ H => D.nx σ H
def zCons (s r : RS) : RS := fun D W σ H => s { D with nx := fun σ' H' => r D W σ' H' } W σ H
theorem WS.nx {D : Ends} {M : St → Hp → Prop} (h : WS X st { D with nx := M } σ H) (k : ∀ σ' H', M σ' H' → D.nx σ' H') : WS X st D σ H := WS.le h (.i (fun _ _ m => k _ _ m) (fun _ _ q => q) (fun _ _ q => q) fun _ _ q => q)
theorem z_nil : SSs X j zNil [] := ⟨fun _ _ _ _ _ q => wss_nil q⟩
theorem z_cons (h : SS X j zs st) (hr : SSs X j zt sts) : SSs X j (zCons zs zt) (st :: sts) := ⟨fun {W} c o D σ H q => wss_cons (WS.nx (h.run c o q) fun _ _ q => hr.run c o q)⟩
theorem z_one (h : SS X j zs st) : SSs X j zs [st] := ⟨fun c o _ _ _ q => wss_one (h.run c o q)⟩
def zPass : RS := fun D _ σ H => D.nx σ H
def zBreak : RS := fun D _ σ H => D.bk σ H
def zCont : RS := fun D _ σ H => D.ct σ H
theorem z_pass : SS X j zPass (.Pass pos) := ⟨fun _ _ _ _ _ q => ws_pass q⟩
theorem z_break : SS X j zBreak (.Break pos) := ⟨fun _ _ _ _ _ q => ws_break q⟩
theorem z_cont : SS X j zCont (.Continue pos) := ⟨fun _ _ _ _ _ q => ws_continue q⟩
theorem z_doc {s : Str} {k} : SS X j zPass (.Expr (.Constant (.str s) k pos) pos') := ⟨fun _ _ _ _ _ q => ws_doc q⟩
def zExpr (e : RX) : RS := fun D W σ H => e σ H (fun _ H1 => D.nx σ H1) W
theorem z_expr (h : SX X j t e) (hs : swapsWith e none pos.line X.env = pure false := by rfl) : SS X j (zExpr t) (.Expr e pos) := ⟨fun c _ _ _ _ q => ws_expr (h.run c q) hs⟩
def zRet (e : RX) : RS := fun D W σ H => e σ H D.rt W
theorem z_ret (h : SX X j t e) : SS X j (zRet t) (.Return (some e) pos) := ⟨fun c _ _ _ _ q => ws_ret (h.run c q)⟩
def zRetN : RS := fun D _ _ H => D.rt .non H
theorem z_retN : SS X j zRetN (.Return none pos) := ⟨fun _ _ _ _ _ q => ws_retN q⟩
def zIf (t : RT) (a b : RS) : RS := fun D W σ H => t σ H (fun k H1 => (k = true → a D W σ H1) ∧ (k = false → b D W σ H1)) W
theorem z_if (h : SB X j tc c) (ha : SSs X j zs sts) (hb : SSs X j zt body) : SS X j (zIf tc zs zt) (.If c sts body pos) := ⟨fun cn o _ _ _ q => ws_if ((h.run cn q).mono fun k H q => by
  cases k with
  | true => rw [if_pos rfl]; exact ha.run cn o (q.1 rfl)
  | false => rw [if_neg (by decide)]; exact hb.run cn o (q.2 rfl))⟩
def zSet (i : Nat) (e : RX) : RS := fun D W σ H => e σ H (fun x H1 => D.nx (put σ i x) H1) W
theorem z_set (hN : X.N.Nodup) (hi : X.N[i]? = some n) (h : SX X j t e) (hx : Loc X.env.scope n := by first | exact .inl rfl | exact .inr rfl) (hs : swapsWith e (some (.Name n pos')) pos.line X.env = pure false := by rfl)
    (hf : X.fn n = true ∨ X.env.scope.names.lookup n = some .local := by first | exact .inl rfl | exact .inr rfl | assumption) : SS X j (zSet i t) (.Assign [.Name n pos'] e pos) :=
  ⟨fun c _ _ _ _ q => ws_set hN hi ((h.run c q).mono fun _ _ q => by rw [← put_set]; exact q) hx hs hf⟩
def zAug (i : Nat) (r : RO) (e : RX) : RS := fun D W σ H => match slot σ i with
  | some x => e σ H (fun y H1 => r x y H1 fun z H2 => D.nx (put σ i z) H2) W
  | none => False
theorem z_aug {op : Operator} (ho : SO X (inplaceOp op) r) (hN : X.N.Nodup) (hi : X.N[i]? = some n) (h : SX X j t e) (hl : Loc X.env.scope n := by first | exact .inl rfl | exact .inr rfl)
    (hf : X.fn n = true ∨ X.env.scope.names.lookup n = some .local := by first | exact .inl rfl | exact .inr rfl | assumption) : SS X j (zAug i r t) (.AugAssign (.Name n pos') op e pos) := ⟨fun c _ _ _ _ q => by
  unfold zAug at q
  split at q
  · rename_i x hs
    exact ws_aug hN hi (slot_get hs) ((h.run c q).mono fun _ _ q => ho _ _ _ _ (by simpa only [put_set] using q)) hl hf
  · exact q.elim⟩
/-! ## targets -/
def gName (i : Nat) : RG := fun v σ H R _ => R (put σ i v) H
theorem g_name (hN : X.N.Nodup) (hi : X.N[i]? = some n) (hx : Loc X.env.scope n := by first | exact .inl rfl | exact .inr rfl) (hf : X.fn n = true ∨ X.env.scope.names.lookup n = some .local := by first | exact .inl rfl | exact .inr rfl | assumption) : SG X j (gName i) (.Name n pos) :=
  ⟨fun c _ _ _ _ q => wg_name hN hi (by rw [← put_set]; exact q) hx hf⟩
def gNil : RGs := fun vs σ H R _ => vs = [] ∧ R σ H
def gCons (g : RG) (r : RGs) : RGs := fun vs σ H R W => match vs with
  | v :: vs => g v σ H (fun σ1 H1 => r vs σ1 H1 R W) W
  | [] => False
theorem gs_nil : SGs X j gNil [] := ⟨fun c _ _ _ _ q => by
  obtain ⟨rfl, q⟩ := q
  exact wgs_nil q⟩
theorem gs_cons (h : SG X j g tg) (hr : SGs X j gs tgs) (hs : (assignEach (tg :: tgs) X.env).map (·.2) = assign tg X.env :: (assignEach tgs X.env).map (·.2) := by rfl) : SGs X j (gCons g gs) (tg :: tgs) := ⟨fun c v _ _ _ q => by
  cases v with
  | nil => exact q.elim
  | cons v vs => exact wgs_cons ((h.run c q).mono fun _ _ q => hr.run c q) hs⟩
def gTup (K : PySem.W.Frag) (n : Nat) (g : RGs) : RG := fun v σ H R W => ∃ t vs, v = .ref t ∧ (SqT K H t vs ∨ SqL K H t vs) ∧ vs.length = n ∧ g vs σ H R W
theorem g_tup {k : Nat} (h : SGs X j gs tgs) (hc : X.calm = true := by rfl) (hst : (assignEach tgs X.env).findIdx? (·.1) = none := by rfl) : SG X j (gTup X.K (assignEach tgs X.env).length gs) (.Tuple tgs k pos) := ⟨fun c _ _ _ _ ⟨t, vs, e, hs, hl, q⟩ => by
  subst e
  rcases hs with hs | hs
  · exact wg_tup hs (h.run c q) hc hl.symm hst
  · exact wg_lst hs (h.run c q) hc hl.symm hst⟩
def zAsg (e : RX) (g : RG) : RS := fun D W σ H => e σ H (fun x H1 => g x σ H1 D.nx W) W
theorem z_asg (h : SX X j t e) (hg : SG X j g tg) (hs : swapsWithSole [tg] e pos.line X.env = pure false := by rfl) (hw : swappedStores [tg] e X.env = pure none := by rfl)
    (h1 : (assignEach [tg] X.env).map (·.2) = [assign tg X.env] := by rfl) : SS X j (zAsg t g) (.Assign [tg] e pos) := ⟨fun c _ _ _ _ q => ws_asg ((h.run c q).mono fun _ _ q => hg.run c q) hs hw h1⟩
/-- a, b = x, y -/
def zPar (i l : Nat) (t : RA) : RS := fun D W σ H => t σ H (fun vs H1 => match vs with
  | [v, w] => D.nx (put (put σ i v) l w) H1
  | _ => False) W
theorem z_par {l : Nat} {y : Str} {px py pt pt2 : Pos} {kt k2} (hN : X.N.Nodup) (hi : X.N[i]? = some n) (hj : X.N[l]? = some y) (ha : SA X j tr [a, b]) (hij : i ≠ l := by decide) (hc : X.calm = true := by rfl)
    (hx : X.env.scope.names.lookup n = some .local := by rfl) (hy : X.env.scope.names.lookup y = some .local := by rfl)
    (hw : swappedStores [.Tuple [.Name n px, .Name y py] kt pt] (.Tuple [a, b] k2 pt2) X.env = pure (some [n, y]) := by rfl)
    (hs : swapsWithSole [.Tuple [.Name n px, .Name y py] kt pt] (.Tuple [a, b] k2 pt2) pos.line X.env = pure false := by rfl) :
    SS X j (zPar i l tr) (.Assign [.Tuple [.Name n px, .Name y py] kt pt] (.Tuple [a, b] k2 pt2) pos) := ⟨fun c _ _ _ _ q => ws_par hN hi hj ((ha.run c q).mono fun vs H q => by
      match vs, q with
      | [v, w], q => exact ⟨v, w, rfl, by simpa only [put_set] using q⟩) hij hc hx hy hw hs⟩
def zPar3 (i l m : Nat) (t : RA) : RS := fun D W σ H => t σ H (fun vs H1 => match vs with
  | [u, v, w] => D.nx (put (put (put σ i u) l v) m w) H1
  | _ => False) W
theorem z_par3 {l m : Nat} {y z : Str} {px py pz pt pt2 : Pos} {kt k2} (hN : X.N.Nodup) (hi : X.N[i]? = some n) (hj : X.N[l]? = some y) (hl : X.N[m]? = some z) (ha : SA X j tr [a, b, c]) (hij : i ≠ l := by decide) (hil : i ≠ m := by decide) (hjl : l ≠ m := by decide) (hc : X.calm = true := by rfl)
    (hx : X.env.scope.names.lookup n = some .local := by rfl) (hy : X.env.scope.names.lookup y = some .local := by rfl) (hz : X.env.scope.names.lookup z = some .local := by rfl)
    (hw : swappedStores [.Tuple [.Name n px, .Name y py, .Name z pz] kt pt] (.Tuple [a, b, c] k2 pt2) X.env = pure (some [n, y, z]) := by rfl)
    (hs : swapsWithSole [.Tuple [.Name n px, .Name y py, .Name z pz] kt pt] (.Tuple [a, b, c] k2 pt2) pos.line X.env = pure false := by rfl) :
    SS X j (zPar3 i l m tr) (.Assign [.Tuple [.Name n px, .Name y py, .Name z pz] kt pt] (.Tuple [a, b, c] k2 pt2) pos) := ⟨fun c _ _ _ _ q => ws_par3 hN hi hj hl ((ha.run c q).mono fun vs H q => by
      match vs, q with
      | [u, v, w], q => exact ⟨u, v, w, rfl, by simpa only [put_set] using q⟩) hij hil hjl hc hx hy hz hw hs⟩
/-- o[i] = v -/
def gIxL (o i : RX) : RG := fun v σ H R W => o σ H (fun x H1 => i σ H1 (fun y H2 => ∃ q xs i k, x = .ref q ∧ y = .int i ∧ H2 q = some (.lst xs) ∧ ixN xs.length i = some k ∧ R σ (upd H2 q (.lst (xs.set k v)))) W) W
theorem g_ixL (ho : SX X j ta a) (hi : SX X j tb b) (ha : ∀ v, assign (.Subscript a b pos) X.env v = (do
      let ov ← holding [v] (eval a X.env)
      let iv ← holding [v, ov] (eval b X.env)
      standAt pos
      holding [v, ov, iv] (setItem ov iv v)
      release [v, ov, iv] []) := by intro _; rfl) : SG X j (gIxL ta tb) (.Subscript a b pos) := ⟨fun c v _ _ _ q =>
  .of (pg_sub pe_W pe_W set_list ha) fun H1 x => (ho.run c q).t x fun o H2 ⟨H2', x2, q⟩ => (hi.run c q).t x2 fun y H3 ⟨H3', x3, p, xs, i, k, e1, e2, h1, h2, q⟩ => ⟨p, xs, i, k, e1, e2, x3 _ _ h1, h2, _, x3.set p _, q⟩⟩
def gIxD (o i : RX) : RG := fun v σ H R W => o σ H (fun x H1 => i σ H1 (fun y H2 => ∃ q kvs kx, x = .ref q ∧ y = kV kx ∧ H2 q = some (.dK kvs) ∧ kvs.length < 100000 ∧ R σ (upd H2 q (.dK (putK kvs kx v)))) W) W
theorem g_ixD (ho : SX X j ta a) (hi : SX X j tb b) (ha : ∀ v, assign (.Subscript a b pos) X.env v = (do
      let ov ← holding [v] (eval a X.env)
      let iv ← holding [v, ov] (eval b X.env)
      standAt pos
      holding [v, ov, iv] (setItem ov iv v)
      release [v, ov, iv] []) := by intro _; rfl) : SG X j (gIxD ta tb) (.Subscript a b pos) := ⟨fun c v _ _ _ q =>
  .of (pg_sub pe_W pe_W (set_dict (hu_of c.room)) ha) fun H1 x => (ho.run c q).t x fun o H2 ⟨H2', x2, q⟩ => (hi.run c q).t x2 fun y H3 ⟨H3', x3, p, kvs, kx, e1, e2, h1, h2, q'⟩ => by
    subst e1; subst e2
    exact ⟨p, _, rfl, DPut.k (k := kx) (x3 _ _ h1) (Nat.lt_of_lt_of_le h2 (by decide)), _, x3.set p _, q'⟩⟩
/-! ## raise -/
def zRaise (C : Addr) (t : RA) : RS := fun D W σ H => t σ H (fun vs H1 => vs.length ≤ 1000 ∧ W (.ref C) none σ H1) W
theorem z_raise {C : Addr} (T : ErrC X.K X.mg n C) (ha : SA X j tr (e :: es)) (hg : Gl X n := by rfl) (hdb : (n == ("__debug__" : Str)) = false := by decide)
    (he : starEach (e :: es) X.env = (false, eval e X.env) :: starEach es X.env := by rfl) (hpl : (backTo pos (starEach es X.env)).any (·.1) = false := by rfl) (hc : X.calm = true := by rfl) : SS X j (zRaise C tr) (.Raise (some (.Call (.Name n p) (e :: es) [] pos)) none pos') :=
  ⟨fun c _ _ _ _ q => ws_raise c (wm_err T ((ha.run c q).mono fun _ _ q => ⟨q.1, ⟨_, Ex.refl _, q.2⟩⟩) hg hdb he hpl) hc⟩
/-! ## loops -/
structure ItOk (J : It) (n : Nat) (G : Hp → Prop) (Y : Nat → Hp → VK → Prop) : Prop where
  ex : ∃ G0 Y0, Walk J n G0 Y0 ∧ (∀ H H1, G H → Ex H H1 → G0 H1) ∧ ∀ i H H1 x H1' K, i < n → Ex H H1 → Y0 i H1 x H1' → Y i H K → up K x H1'
abbrev RI := St → Hp → (Nat → (Hp → Prop) → (Nat → Hp → VK → Prop) → Hp → Prop) → WX → Prop
structure SIt (X : Cx) (j : Nat) (t : RI) (tg iter : Expr) : Prop where
  ex : ∃ wi, PI X tg iter wi ∧ ∀ {W}, Cn X (upW W) j → ∀ {σ H R}, t σ H R W → ∀ H1, Ex H H1 → ∀ F : It → Hp → Prop, (∀ J H2 H' n G Y, Ex H' H2 → ItOk J n G Y → R n G Y H' → F J H2) → wi σ H1 F
def yAt (xs : List V) : Nat → Hp → VK → Prop := fun i H k => ∀ x, xs[i]? = some x → k x H
theorem ItOk.at {J : It} {n : Nat} {G : Hp → Prop} {xs : List V} (w : Walk J n G (YAt xs)) (hG : ∀ H H1, G H → Ex H H1 → G H1) : ItOk J n G (yAt xs) := ⟨_, _, w, hG, fun i H H1 x H1' K hi e y q => by
  obtain ⟨rfl, y⟩ := y
  exact ⟨H, e, q x y⟩⟩
def iL (K : PySem.W.Frag) (e : RX) : RI := fun σ H R W => e σ H (fun x H1 => ∃ a xs, x = .ref a ∧ SqL K H1 a xs ∧ R xs.length (fun H => SqL K H a xs) (yAt xs) H1) W
theorem i_L (h : SX X j t iter) : SIt X j (iL X.K t) tg iter := ⟨_, pi_list pe_W, fun c σ H R q H1 x F k => (h.run c q).t x fun v H2 ⟨H3, x3, a, xs, e, hs, q⟩ => ⟨a, e, ⟨xs, x3.sqL hs⟩, k _ _ _ _ _ _ x3 (.at walk_list fun _ _ h x => x.sqL h) q⟩⟩
def iT (K : PySem.W.Frag) (e : RX) : RI := fun σ H R W => e σ H (fun x H1 => ∃ a xs, x = .ref a ∧ SqT K H1 a xs ∧ R xs.length (fun H => SqT K H a xs) (yAt xs) H1) W
theorem i_T (h : SX X j t iter) : SIt X j (iT X.K t) tg iter := ⟨_, pi_tup pe_W, fun c σ H R q H1 x F k => (h.run c q).t x fun v H2 ⟨H3, x3, a, xs, e, hs, q⟩ => ⟨a, e, ⟨xs, x3.sqT hs⟩, k _ _ _ _ _ _ x3 (.at walk_tup fun _ _ h x => x.sqT h) q⟩⟩
def yRg (lo : Int) : Nat → Hp → VK → Prop := fun i H k => k (.int (lo + i)) H
def iR1 (t : RA) : RI := fun σ H R W => t σ H (fun vs H1 => match vs with
  | [.int n] => (-(2 ^ 62) ≤ n ∧ n < 2 ^ 62) ∧ R n.toNat (fun _ => True) (fun i H k => k (.int i) H) H1
  | _ => False) W
def iR2 (t : RA) : RI := fun σ H R W => t σ H (fun vs H1 => match vs with
  | [.int l, .int n] => (-(2 ^ 62) ≤ l ∧ l < 2 ^ 62 ∧ -(2 ^ 62) ≤ n ∧ n < 2 ^ 62) ∧ R (n - l).toNat (fun _ => True) (yRg l) H1
  | _ => False) W
theorem i_R1 (hm : X.mg "range" = none) (h : SA X j tr [a]) (hg : Gl X "range" := by rfl) (hs : starEach [a] X.env = [(false, eval a X.env)] := by rfl) : SIt X j (iR1 tr) tg (.Call (.Name "range" p) [a] [] pos) :=
  ⟨_, pi_range1 hg hm pa_W hs, fun c σ H R q H1 x F k => (h.run c q).t x fun vs H2 ⟨H3, x3, q⟩ => by
    match vs, q with
    | [.int n], q => exact ⟨n, rfl, q.1.1, q.1.2, k _ _ _ _ _ _ x3 ⟨_, _, walk_range, fun _ _ _ _ => trivial, fun i H H1 x H1' K hi e y q => by
        obtain ⟨rfl, rfl⟩ := y
        refine ⟨H, e, ?_⟩
        show K (.int (0 + (i : Int))) H
        rw [Int.zero_add]
        exact q⟩ q.2⟩⟩
theorem i_R2 (hm : X.mg "range" = none) (h : SA X j tr [a, b]) (hg : Gl X "range" := by rfl) (hs : starEach [a, b] X.env = [(false, eval a X.env), (false, eval b X.env)] := by rfl) (hs2 : starEach [b] X.env = [(false, eval b X.env)] := by rfl) : SIt X j (iR2 tr) tg (.Call (.Name "range" p) [a, b] [] pos) :=
  ⟨_, pi_range2 hg hm pa_W hs hs2, fun c σ H R q H1 x F k => (h.run c q).t x fun vs H2 ⟨H3, x3, q⟩ => by
    match vs, q with
    | [.int l, .int n], q => exact ⟨l, n, rfl, q.1, k _ _ _ _ _ _ x3 ⟨_, _, walk_range, fun _ _ _ _ => trivial, fun i H H1 x H1' K hi e y q => by
        obtain ⟨rfl, rfl⟩ := y
        exact ⟨H, e, q⟩⟩ q.2⟩⟩
def ForP (n : Nat) (G : Hp → Prop) (Y : Nat → Hp → VK → Prop) (g : RG) (body : RS) (D : Ends) (W : WX) (σ : St) (H1 : Hp) : Prop := ∃ Pv : Nat → St → Hp → Prop, Pv 0 σ H1 ∧ (∀ i σ' H', i ≤ n → Pv i σ' H' → G H') ∧
  (∀ i σ' H', i < n → Pv i σ' H' → Y i H' fun x H2 => g x σ' H2 (fun σ3 H3 => body { D with nx := fun σ4 H4 => fg (Pv (i + 1) σ4) H4, ct := fun σ4 H4 => fg (Pv (i + 1) σ4) H4, bk := D.nx } W σ3 H3) W) ∧ ∀ σ' H', Pv n σ' H' → D.nx σ' H'
@[irreducible] def ForB (n : Nat) (G : Hp → Prop) (Y : Nat → Hp → VK → Prop) (g : RG) (body : RS) (D : Ends) (W : WX) (σ : St) (H1 : Hp) : Prop := ForP n G Y g body D W σ H1
theorem ForB.out {n : Nat} {G : Hp → Prop} {Y : Nat → Hp → VK → Prop} {g : RG} {body : RS} {D : Ends} {W : WX} {σ : St} {H1 : Hp} (h : ForB n G Y g body D W σ H1) : ForP n G Y g body D W σ H1 := by
  unfold ForB at h
  exact h
/-- a for by its invariant (turn, slots, heap) -/
theorem forB {n : Nat} {G : Hp → Prop} {Y : Nat → Hp → VK → Prop} {g : RG} {body : RS} {D : Ends} {W : WX} {σ : St} {H1 : Hp} (Pv : Nat → St → Hp → Prop) (h0 : Pv 0 σ H1) (hG : ∀ i σ' H', i ≤ n → Pv i σ' H' → G H')
    (turn : ∀ i σ' H', i < n → Pv i σ' H' → Y i H' fun x H2 => g x σ' H2 (fun σ3 H3 => body { D with nx := fun σ4 H4 => fg (Pv (i + 1) σ4) H4, ct := fun σ4 H4 => fg (Pv (i + 1) σ4) H4, bk := D.nx } W σ3 H3) W) (done : ∀ σ' H', Pv n σ' H' → D.nx σ' H') : ForB n G Y g body D W σ H1 := by
  unfold ForB
  exact ⟨Pv, h0, hG, turn, done⟩
def zFor (it : RI) (g : RG) (body : RS) : RS := fun D W σ H => it σ H (fun n G Y H1 => ForB n G Y g body D W σ H1) W
theorem z_for {it : RI} (hi : SIt X j it tg iter) (hg : SG X j g tg) (hb : SSs X j zs body) (hc : X.calm = true := by rfl) (hs : ∀ x, foldedSetIterable iter X.env x = pure x := by intro _; rfl) : SS X j (zFor it g zs) (.For tg iter body [] pos) := by
  obtain ⟨wi, pi, k⟩ := hi.ex
  refine ⟨fun {W} c o D σ H q => .of (ps_for o hc pi pg_W pss_W hs) fun H1 x => ?_⟩
  refine k c q H1 x _ fun J H2 H' n G Y x2 hJ hb0 => ?_
  obtain ⟨Pv, h0, hG, hs, hd⟩ := hb0.out
  obtain ⟨G0, Y0, wk, hG0, hY⟩ := hJ.ex
  refine for_it wk (fun i => upS (Pv i)) ⟨H', x2, h0⟩ (fun i σ' H3 hi ⟨H4, x4, p⟩ => hG0 _ _ (hG i σ' H4 hi p) x4) (fun i y σ' H3 H3' hi ⟨H4, x4, p⟩ hy => ?_) fun σ' H3 ⟨H4, x4, p⟩ => ⟨H4, x4, hd _ _ p⟩
  obtain ⟨H5, x5, q5⟩ := hY i H4 H3 y H3' _ hi x4 hy (hs i σ' H4 hi p)
  exact (hg.run c q5).t x5 fun σ6 H6 ⟨H7, x7, q7⟩ => ⟨H7, _, x7, hb.run c o q7, ⟨fun _ _ ⟨H8, x8, H9, x9, q⟩ => ⟨H9, x9.trans x8, q⟩, fun _ _ q => q, fun _ _ q => q, fun _ _ ⟨H8, x8, H9, x9, q⟩ => ⟨H9, x9.trans x8, q⟩⟩⟩
/-- while: a measure that falls, an invariant -/
def zWhile (tc : RT) (body : RS) : RS := fun D W σ H => ∃ (Pv : Nat → St → Hp → Prop) (m : Nat), Pv m σ H ∧ ∀ m σ' H', Pv m σ' H' → tc σ' H' (fun k H2 =>
  (k = true → body { D with nx := fun σ3 H3 => ∃ m', m' < m ∧ fg (Pv m' σ3) H3, ct := fun σ3 H3 => ∃ m', m' < m ∧ fg (Pv m' σ3) H3, bk := D.nx } W σ' H2) ∧ (k = false → D.nx σ' H2)) W
theorem Cn.tkU (cn : Cn X (upW W) j) (o : Own X) : Tk X (upW W) := cn.t o
theorem z_while (h : SB X j tc c) (hb : SSs X j zs body) : SS X j (zWhile tc zs) (.While c body [] pos) := ⟨fun {W} cn o D σ H ⟨Pv, m, h0, hs⟩ => by
  refine ws_while (cn.t o) (fun m σ' H' => fg (Pv m σ') H') m (.i h0) fun m σ' H' ⟨H2, x2, p⟩ => ?_
  refine WT.mono (QB := fun k H2 => (k = true → zs { D with nx := fun σ3 H3 => ∃ m', m' < m ∧ fg (Pv m' σ3) H3, ct := fun σ3 H3 => ∃ m', m' < m ∧ fg (Pv m' σ3) H3, bk := D.nx } W σ' H2) ∧ (k = false → D.nx σ' H2)) (fun H1 x => h.run cn (hs m σ' H2 p) H1 (x2.trans x)) fun k H q => ?_
  cases k with
  | true => rw [if_pos rfl]; exact hb.run cn o (q.1 rfl)
  | false => exact iteF (q.2 rfl)⟩
/-! ## comprehensions -/
theorem Cn.blkU {k : Nat} {W1 : WX} (c : Cn X W k) (s : Shared) (H : Hp) (scope : Scope) (C : Addr) (cl : List (Str × Addr)) (fp : List Addr) : Cn (X.blk s H scope (compEnvC scope cl C X.env) fp) (upW fun _ _ _ _ => False) k :=
  ⟨c.room, c.gd, fun u s' ⟨a, B, sI, pins, σ, H, cls, d, e, I, nb, up, sky, na, os, ag, w⟩ => w.elim fun _ w => w.2.elim, fun _ _ _ _ _ z _ => z.elim fun _ w => w.2.elim⟩
def noW : WX := fun _ _ _ _ => False
def tY : RT := fun _ H Q _ => Q true H
/-- [elt for tg in it if tc] -/
def LcP (n : Nat) (G : Hp → Prop) (Y : Nat → Hp → VK → Prop) (g : RG) (tc : RT) (elt : RX) (vs : List Nat) (σ : St) (H1 : Hp) (Q : VK) : Prop := ∃ Pv : Nat → List V → Hp → Prop, Pv 0 [] H1 ∧ (∀ i acc H', i ≤ n → Pv i acc H' → G H' ∧ acc.length < 100000) ∧
  (∀ i acc H' d, i < n → Pv i acc H' → H' d = none → Y i (upd H' d (.lst acc)) fun x H2 => g x (wipe σ vs) H2 (fun σ3 H3 => wipe σ3 vs = wipe σ vs ∧ tc σ3 H3 (fun k H4 =>
    (k = true → elt σ3 H4 (fun y H5 => ∃ H6, H6 d = none ∧ Ex (upd H6 d (.lst acc)) H5 ∧ Pv (i + 1) (acc ++ [y]) H6) noW) ∧ (k = false → ∃ H6, H6 d = none ∧ Ex (upd H6 d (.lst acc)) H4 ∧ Pv (i + 1) acc H6)) noW) noW) ∧
  ∀ acc H' q, Pv n acc H' → H' q = none → Q (.ref q) (upd H' q (.lst acc))
@[irreducible] def LcB (n : Nat) (G : Hp → Prop) (Y : Nat → Hp → VK → Prop) (g : RG) (tc : RT) (elt : RX) (vs : List Nat) (σ : St) (H1 : Hp) (Q : VK) : Prop := LcP n G Y g tc elt vs σ H1 Q
theorem LcB.out {n : Nat} {G : Hp → Prop} {Y : Nat → Hp → VK → Prop} {g : RG} {tc : RT} {elt : RX} {vs : List Nat} {σ : St} {H1 : Hp} {Q : VK} (h : LcB n G Y g tc elt vs σ H1 Q) : LcP n G Y g tc elt vs σ H1 Q := by
  unfold LcB at h
  exact h
/-- a comprehension by its invariant (turn, the list so far, the heap without it) -/
theorem lcB {n : Nat} {G : Hp → Prop} {Y : Nat → Hp → VK → Prop} {g : RG} {tc : RT} {elt : RX} {vs : List Nat} {σ : St} {H1 : Hp} {Q : VK} (Pv : Nat → List V → Hp → Prop) (h0 : Pv 0 [] H1) (hG : ∀ i acc H', i ≤ n → Pv i acc H' → G H' ∧ acc.length < 100000)
    (turn : ∀ i acc H' d, i < n → Pv i acc H' → H' d = none → Y i (upd H' d (.lst acc)) fun x H2 => g x (wipe σ vs) H2 (fun σ3 H3 => wipe σ3 vs = wipe σ vs ∧ tc σ3 H3 (fun k H4 =>
    (k = true → elt σ3 H4 (fun y H5 => ∃ H6, H6 d = none ∧ Ex (upd H6 d (.lst acc)) H5 ∧ Pv (i + 1) (acc ++ [y]) H6) noW) ∧ (k = false → ∃ H6, H6 d = none ∧ Ex (upd H6 d (.lst acc)) H4 ∧ Pv (i + 1) acc H6)) noW) noW)
    (done : ∀ acc H' q, Pv n acc H' → H' q = none → Q (.ref q) (upd H' q (.lst acc))) : LcB n G Y g tc elt vs σ H1 Q := by
  unfold LcB
  exact ⟨Pv, h0, hG, turn, done⟩
/-- [elt for tg in it if tc] -/
def rLc (it : RI) (g : RG) (tc : RT) (elt : RX) (vs : List Nat) : RX := fun σ H Q W => it σ H (fun n G Y H1 => LcB n G Y g tc elt vs σ H1 Q) W
structure SBs (X : Cx) (j : Nat) (t : RT) (ifs : List Expr) : Prop where
  run : ∀ {W : WX}, Cn X (upW W) j → ∀ {σ H Q}, t σ H Q W → ∀ H1, Ex H H1 → ∀ pins s, Inv X pins σ H1 s → ∀ (Qf : Bool → Hp → Prop), (∀ k H2, upB Q k H2 → Qf k H2) → True
/-- a text within the block -/
def eBW (X : Cx) (scope : Scope) (t : RX) (e : Expr) : TE := fun σ H1 Q1 => ∃ H Q, Ex H H1 ∧ t σ H Q noW ∧ ∀ v H2, up Q v H2 → Q1 v H2
def tBW (X : Cx) (scope : Scope) (t : RT) (e : Expr) : TT := fun σ H1 Q1 => ∃ H Q, Ex H H1 ∧ t σ H Q noW ∧ ∀ v H2, upB Q v H2 → Q1 v H2
def gBW (X : Cx) (scope : Scope) (g : RG) (tg : Expr) : TG := fun v σ H1 R1 => ∃ H R, Ex H H1 ∧ g v σ H R noW ∧ ∀ σ' H2, upS R σ' H2 → R1 σ' H2
abbrev BX (X : Cx) (scope : Scope) (p : Cx → Prop) : Prop := InB X scope p
theorem lc_ok {scope : Scope} {own : List (Str × Nat)} {it : RI} {elt : Expr} {ifs : List Expr} {te : RX} (cn : Cn X (upW W) j) (hi : SIt X j it tg iter) (hg : InB X scope fun Y => SG Y j g tg) (ht : ∀ (s : Shared) (H : Hp) (C : Addr) (cl : List (Str × Addr)) (fp : List Addr), PTs (X.blk s H scope (compEnvC scope cl C X.env) fp) ifs (tBW X scope tc iter)) (he : InB X scope fun Y => SX Y j te elt)
    (q : rLc it g tc te (own.map (·.2)) σ H Q W) : ∃ wi, PI X tg iter wi ∧ ∀ H1, Ex H H1 → tLc wi (gBW X scope g tg) (tBW X scope tc iter) (eBW X scope te elt) (own.map (·.2)) σ H1 (up Q) := by
  obtain ⟨wi, pi, k⟩ := hi.ex
  refine ⟨wi, pi, fun H1 x => ?_⟩
  refine k cn q H1 x _ fun J H2 H' n G Y x2 hJ hb0 D hD => ?_
  obtain ⟨Pv, h0, hG, hs, hd⟩ := hb0.out
  obtain ⟨G0, Y0, wk, hG0, hY⟩ := hJ.ex
  refine lc_it wk (fun i H4 => ∃ acc H5, H5 D = none ∧ Ex (upd H5 D (.lst acc)) H4 ∧ Pv i acc H5) ⟨[], H', x2.free hD, x2.set D _, h0⟩ (fun i H4 hi ⟨acc, H5, n5, x5, p⟩ => hG0 _ _ (hG i acc H5 hi p).1 ((Ex.put n5).trans x5)) (fun i y H4 H4' hi ⟨acc, H5, n5, x5, p⟩ hy => ?_) fun H4 ⟨acc, H5, n5, x5, p⟩ => ⟨_, x5, hd acc H5 D p n5⟩
  obtain ⟨H6, x6, q6⟩ := hY i _ H4 y H4' _ hi x5 hy (hs i acc H5 D hi p n5)
  have hz := (hG i acc H5 (Nat.le_of_lt hi) p).2
  refine ⟨H6, _, x6, q6, fun σ7 H7 ⟨H8, x8, ew, q8⟩ => ⟨ew, H8, _, x8, q8, fun b H9 ⟨H10, x10, q10⟩ => ?_⟩⟩
  cases b with
  | true =>
    rw [if_pos rfl]
    refine ⟨H10, _, x10, q10.1 rfl, fun y H11 ⟨H12, x12, H13, n13, x13, p13⟩ => ⟨acc, (x13.trans x12) _ _ upd_same, Nat.lt_trans hz (by decide), acc ++ [y], H13, n13, ?_, p13⟩⟩
    have z := (x13.trans x12).set D (.lst (acc ++ [y]))
    rw [upd_upd] at z
    exact z
  | false =>
    rw [if_neg (by decide)]
    obtain ⟨H13, n13, x13, p13⟩ := q10.2 rfl
    exact ⟨acc, H13, n13, x13.trans x10, p13⟩
theorem gBW_ok {scope : Scope} (cn : Cn X (upW W) j) (hg : InB X scope fun Y => SG Y j g tg) (s : Shared) (H : Hp) (C : Addr) (cl : List (Str × Addr)) (fp : List Addr) : PG (X.blk s H scope (compEnvC scope cl C X.env) fp) tg (gBW X scope g tg) :=
  ⟨fun pins s' σ H' v u R I r ⟨H1, R1, x, q, k⟩ => pg_W.run pins s' σ H' v u R I r ((hg s H C cl fp).run (cn.blkU (W1 := noW) s H scope C cl fp) q |>.t x k)⟩
theorem eBW_ok {scope : Scope} {te : RX} (cn : Cn X (upW W) j) (he : InB X scope fun Y => SX Y j te e) (s : Shared) (H : Hp) (C : Addr) (cl : List (Str × Addr)) (fp : List Addr) : PE (X.blk s H scope (compEnvC scope cl C X.env) fp) e (eBW X scope te e) :=
  ⟨fun pins s' σ H' Q I ⟨H1, Q1, x, q, k⟩ => pe_W.run pins s' σ H' Q I ((he s H C cl fp).run (cn.blkU (W1 := noW) s H scope C cl fp) q |>.t x k)⟩
theorem tBW_ok {scope : Scope} {e2 : Expr} (cn : Cn X (upW W) j) (he : InB X scope fun Y => SB Y j tc e) (s : Shared) (H : Hp) (C : Addr) (cl : List (Str × Addr)) (fp : List Addr) : PTs (X.blk s H scope (compEnvC scope cl C X.env) fp) [e] (tBW X scope tc e2) :=
  pts_one ⟨fun pins s' σ H' Q I ⟨H1, Q1, x, q, k⟩ => pt_W.run pins s' σ H' Q I ((he s H C cl fp).run (cn.blkU (W1 := noW) s H scope C cl fp) q |>.t x k)⟩
theorem tBW_ok0 {scope : Scope} {e2 : Expr} (s : Shared) (H : Hp) (C : Addr) (cl : List (Str × Addr)) (fp : List Addr) : PTs (X.blk s H scope (compEnvC scope cl C X.env) fp) [] (tBW X scope tY e2) :=
  ⟨fun pins s' σ H' Q I ⟨H1, Q1, x, q, k⟩ => wpAny_tests_nil ⟨H', I, k _ _ ⟨H1, x, q⟩⟩⟩
theorem s_lc0 {scope : Scope} {own : List (Str × Nat)} {it : RI} {elt : Expr} {te : RX} (hi : SIt X j it tg iter) (hN : X.N.Nodup) (ok : blkC X.N X.env.scope scope own = true) (hg : InB X scope fun Y => SG Y j g tg) (he : InB X scope fun Y => SX Y j te elt) (hc : X.calm = true := by rfl) (hs : ∀ x, foldedSetIterable iter X.env x = pure x := by intro _; rfl) :
    SX X j (rLc it g tY te (own.map (·.2))) (.ListComp elt [⟨tg, iter, [], 0⟩] scope pos) := ⟨fun cn σ H Q q => by
  obtain ⟨wi, pi, k⟩ := lc_ok (scope := scope) (elt := elt) (ifs := []) cn hi hg tBW_ok0 he q
  exact .of (pe_lc hc hN pi (blkOk_by ok) (gBW_ok cn hg) tBW_ok0 (eBW_ok cn he) hs) k⟩
theorem s_lc1 {scope : Scope} {own : List (Str × Nat)} {it : RI} {elt cd : Expr} {te : RX} (hi : SIt X j it tg iter) (hN : X.N.Nodup) (ok : blkC X.N X.env.scope scope own = true) (hg : InB X scope fun Y => SG Y j g tg) (ht : InB X scope fun Y => SB Y j tc cd) (he : InB X scope fun Y => SX Y j te elt) (hc : X.calm = true := by rfl) (hs : ∀ x, foldedSetIterable iter X.env x = pure x := by intro _; rfl) :
    SX X j (rLc it g tc te (own.map (·.2))) (.ListComp elt [⟨tg, iter, [cd], 0⟩] scope pos) := ⟨fun cn σ H Q q => by
  obtain ⟨wi, pi, k⟩ := lc_ok (scope := scope) (elt := elt) (ifs := [cd]) cn hi hg (tBW_ok cn ht) he q
  exact .of (pe_lc hc hN pi (blkOk_by ok) (gBW_ok cn hg) (tBW_ok cn ht) (eBW_ok cn he) hs) k⟩
/-- name = [..] -/
theorem z_lc0 {y : Str} {py spos : Pos} {scope : Scope} {own : List (Str × Nat)} {it : RI} {elt : Expr} {te : RX} (hi : SIt X j it tg iter) (hN : X.N.Nodup) (hy : X.N[i]? = some y) (ok : blkC X.N X.env.scope scope own = true) (hg : InB X scope fun Y => SG Y j g tg) (he : InB X scope fun Y => SX Y j te elt) (hyl : X.env.scope.names.lookup y = some .local := by rfl)
    (hsw : swapsWith (.ListComp elt [⟨tg, iter, [], 0⟩] scope pos) (some (.Name y py)) spos.line X.env = pure true := by rfl) (hc : X.calm = true := by rfl) (hs : ∀ x, foldedSetIterable iter X.env x = pure x := by intro _; rfl) :
    SS X j (zSet i (rLc it g tY te (own.map (·.2)))) (.Assign [.Name y py] (.ListComp elt [⟨tg, iter, [], 0⟩] scope pos) spos) := ⟨fun cn _ D σ H q => by
  obtain ⟨wi, pi, k⟩ := lc_ok (scope := scope) (elt := elt) (ifs := []) cn hi hg tBW_ok0 he q
  exact .of (ps_setLc hc hN hy hyl hsw pi (blkOk_by ok) (gBW_ok cn hg) tBW_ok0 (eBW_ok cn he) hs) fun H1 x => by simp only [put_set] at k; exact k H1 x⟩
theorem z_lc1 {y : Str} {py spos : Pos} {scope : Scope} {own : List (Str × Nat)} {it : RI} {elt cd : Expr} {te : RX} (hi : SIt X j it tg iter) (hN : X.N.Nodup) (hy : X.N[i]? = some y) (ok : blkC X.N X.env.scope scope own = true) (hg : InB X scope fun Y => SG Y j g tg) (ht : InB X scope fun Y => SB Y j tc cd) (he : InB X scope fun Y => SX Y j te elt) (hyl : X.env.scope.names.lookup y = some .local := by rfl)
    (hsw : swapsWith (.ListComp elt [⟨tg, iter, [cd], 0⟩] scope pos) (some (.Name y py)) spos.line X.env = pure true := by rfl) (hc : X.calm = true := by rfl) (hs : ∀ x, foldedSetIterable iter X.env x = pure x := by intro _; rfl) :
    SS X j (zSet i (rLc it g tc te (own.map (·.2)))) (.Assign [.Name y py] (.ListComp elt [⟨tg, iter, [cd], 0⟩] scope pos) spos) := ⟨fun cn _ D σ H q => by
  obtain ⟨wi, pi, k⟩ := lc_ok (scope := scope) (elt := elt) (ifs := [cd]) cn hi hg (tBW_ok cn ht) he q
  exact .of (ps_setLc hc hN hy hyl hsw pi (blkOk_by ok) (gBW_ok cn hg) (tBW_ok cn ht) (eBW_ok cn he) hs) fun H1 x => by simp only [put_set] at k; exact k H1 x⟩
/-! ## a def -/
def rFn (n : Nat) (N : List Str) (body : RS) : Sp := fun vs H Q E => vs.length = n ∧ body { nx := fun _ H' => fg (Q .non) H', rt := fun v H' => fg (Q v) H' } (fun c d _ H' => E c d H') (start N vs) H
theorem rfn_ends {Q : VK} : EndsLe { nx := fun _ H' => fg (Q .non) H', rt := fun v H' => fg (Q v) H' } (upD { nx := fun _ H' => Q .non H', rt := Q }) :=
  ⟨fun _ _ ⟨_, x, H', x', q⟩ => ⟨H', x'.trans x, q⟩, fun _ _ ⟨_, x, H', x', q⟩ => ⟨H', x'.trans x, q⟩, fun _ _ ⟨_, _, q⟩ => q.elim, fun _ _ ⟨_, _, q⟩ => q.elim⟩
end
section
variable {P : Program} {w : World} {K : PySem.W.Frag} {mg : Str → Option Value} {base : Heap} {n : Str} {st : Stmt} {ps N : List Str} {k : Nat} {zs : RS}
abbrev Body (P : Program) (w : World) (K : PySem.W.Frag) (mg : Str → Option Value) (base : Heap) (N : List Str) (n : Str) (st : Stmt) (f : Addr) (k : Nat) (zs : RS) : Prop :=
  ∀ (cd : Value) (A : Around) (outer : List Env) (s : Shared) (H1 : Hp) (E1 : XK), SSs (fx P w K mg base N n st f cd A outer s H1 E1) k zs (defBody st)
theorem Cn.toU {X : Cx} {W : WX} {E : XK} (c : Cn X W k) (hW : ∀ c d σ H', E c d H' → W c d σ H') (room : Takes X (upW fun c d _ H' => E c d H')) : Cn X (upW fun c d _ H' => E c d H') k := ⟨c.room, c.gd, room, fun c d σ H H' ⟨H2, x2, q⟩ x => ⟨H2, x2.trans x, q⟩⟩
theorem Def.rfng (d : Def K mg n st ps) (S : FnScope N ps (defScope st)) (hb : Body P w K mg base N n st d.f k zs) : FnG P w K mg base (k + 1) d.f d.fd ps (rFn ps.length N zs) :=
  fng_of d.F S (fun vs H Q E h => h.1) fun cd A outer s H1 E1 W vs H Q E c o hW h => by
    have c2 : Cn (fx P w K mg base N n st d.f cd A outer s H1 E1) (upW fun c d _ H' => E c d H') k := ⟨c.room, c.gd, c.tk.imp fun c0 d0 σ0 H0 ⟨H2, x2, q⟩ => c.wu _ _ _ _ _ (hW _ _ _ _ q) x2, fun c d σ H H' ⟨H2, x2, q⟩ x => ⟨H2, x2.trans x, q⟩⟩
    exact ((hb cd A outer s H1 E1).run c2 o h.2).le rfn_ends
theorem Def.rcal (d : Def K mg n st ps) (S : FnScope N ps (defScope st)) (hb : Body P w K mg base N n st d.f k zs) : Cal P w K mg base n (k + 1) ps [] (rFn ps.length N zs) :=
  ⟨d.f, d.fd, [], d.rfng S hb, d.g, d.F.kp, d.b, .nil, by
    obtain ⟨oc, od, kV, doc, pm, an, cd, ct, osl, e, lk, _⟩ := d.F.ex
    exact ⟨oc, od, osl, lk⟩⟩
end
/-! ## keyword calls -/
def reo {α : Type} (is : List Nat) (us ws : List α) : List α := is.filterMap fun i => (us ++ ws)[i]?
theorem reo_vals (is : List Nat) {vs zs : List V} {us ws : List Value} (h1 : Vals vs us) (h2 : Vals zs ws) : Vals (reo is vs zs) (reo is us ws) := by
  have h := h1.append h2
  unfold reo
  induction is with
  | nil => exact .nil
  | cons i is ih =>
    rw [List.filterMap_cons, List.filterMap_cons]
    cases e : (vs ++ zs)[i]? with
    | none =>
      rw [Vals.none_of h e]
      exact ih
    | some x =>
      obtain ⟨u, hu, r⟩ := Vals.get h e
      rw [hu]
      exact .cons r ih
section
variable {X : Cx} {j : Nat} {W : WX} {e a b c : Expr} {es rest : List Expr} {kws : List Keyword} {σ : St} {H H1 : Hp} {Q : VK} {pos p : Pos} {t ta tb : RX} {tr tk : RA} {n : Str}
theorem WK.mono {QA QA1 : List V → Hp → Prop} (w : WK X kws σ H QA) (k : ∀ v H, QA v H → QA1 v H) : WK X kws σ H QA1 := fun H1 x pos pins s I => thn (w H1 x pos pins s I) fun u s' ⟨v, H2, I2, r, H3, x3, q⟩ => ⟨v, H2, I2, r, H3, x3, k _ _ q⟩
theorem run_fngNU {vs zs : List V} {k m : Nat} {f : Addr} {fd : FuncData} {ps ks : List Str} {sp : Sp} {us ws : List Value} {pins : List (Addr × Obj)} {s : Shared} {g : List Value → List Value → List Value} {gV : List V → List V → List V}
    (F : FnG X.prog X.w X.K X.mg X.base k f fd ps sp) (c : Cn X (upW W) k) (hb : KBn X.K fd ps m ks g gV) (I : Inv X pins σ H1 s) (x : Ex H H1) (r : Vals vs us) (rz : Vals zs ws) (l1 : vs.length = m) (l2 : zs.length = ks.length) (h : sp (gV vs zs) H Q fun c d H' => W c d σ H') :
    wpAny (model X.prog X.w) X.A (call (.ref f) us (ks.zip ws)) (EP X pins σ (up Q)) X.xe s := by
  have r2 := hb.rel r rz
  refine wpAny_call (codeAny_mono (F.run X.A X.stack s H1 ⟨us, ks.zip ws⟩ (g us ws) (gV vs zs) H Q _ c.room c.gd I.env0 (hb.to s us ws I.kIn (r.length.symm.trans l1) (rz.length.symm.trans l2)) r2 x h) fun res s' q => ?_)
  rcases res with er | fl
  · exact c.tk er s' (XE.of_call I (fun cl d H' ⟨H2, x2, q2⟩ => ⟨H2, x2, q2⟩) q)
  · cases fl with
    | ret u => exact I.after q
    | _ => exact q.elim
/-- f(e, .., k = v, ..): the values in the parameters' order -/
def rCallN (sp : Sp) (m nk : Nat) (gV : List V → List V → List V) (t tk : RA) : RX := fun σ H Q W => t σ H (fun vs H1 => tk σ H1 (fun zs H2 => vs.length = m ∧ zs.length = nk ∧ sp (gV vs zs) H2 Q fun c d H' => W c d σ H') W) W
theorem s_callK {sp : Sp} {k m nk : Nat} {ks : List Str} {gV : List V → List V → List V} (C : CalK X.prog X.w X.K X.mg X.base n k m ks gV sp) (h : SA X j tr (e :: es)) (hk : SK X j tk kws) (hnk : ks.length = nk := by rfl) (hkj : k ≤ j := by decide) (hg : Gl X n := by rfl)
    (hall : (backToKw pos (keywordEach kws X.env)).all (·.1.isSome) = true := by rfl) (hks : (backToKw pos (keywordEach kws X.env)).filterMap (·.1) = ks := by rfl)
    (hdb : (n == ("__debug__" : Str)) = false := by decide) (he : starEach (e :: es) X.env = (false, eval e X.env) :: starEach es X.env := by rfl)
    (hpl : ((backTo pos (starEach (e :: es) X.env)).any (·.1) || (backToKw pos (keywordEach kws X.env)).any (·.1.isNone)) = false := by rfl) : SX X j (rCallN sp m nk gV tr tk) (.Call (.Name n p) (e :: es) kws pos) := by
  obtain ⟨f, fd, ps, g, F, hm, hkp, hb⟩ := C.ex
  refine ⟨fun c σ H Q q H1 x pins s I => ?_⟩
  refine wpAny_Call_Name_kw (ld_glob I hg hm ?_ hdb)
  refine PySem.W.callWith_KW (h₀ := X.base) I.ok.mod.kin hkp hall (thn (h.run c q H1 x pos pins s I) fun us s1 ⟨vs, H2, I2, r, H3, x3, q⟩ => ?_) hpl he
  refine thn (hk.run c q H2 x3 pos pins s1 I2) fun ws s2 ⟨zs, H4, I4, rz, H5, x5, l1, l2, q2⟩ => ⟨I4.kIn, ?_⟩
  rw [hks]
  exact run_fngNU F (c.mono hkj) hb I4 x5 r rz l1 (l2.trans hnk.symm) q2
theorem s_callK0 {sp : Sp} {k nk : Nat} {ks : List Str} {gV : List V → List V → List V} (C : CalK X.prog X.w X.K X.mg X.base n k 0 ks gV sp) (hk : SK X j tk kws) (hnk : ks.length = nk := by rfl) (hkj : k ≤ j := by decide) (hg : Gl X n := by rfl)
    (hall : (backToKw pos (keywordEach kws X.env)).all (·.1.isSome) = true := by rfl) (hks : (backToKw pos (keywordEach kws X.env)).filterMap (·.1) = ks := by rfl)
    (hdb : (n == ("__debug__" : Str)) = false := by decide) (hpl : ((backTo pos (starEach [] X.env)).any (·.1) || (backToKw pos (keywordEach kws X.env)).any (·.1.isNone)) = false := by rfl) : SX X j (rCallN sp 0 nk gV aNil tk) (.Call (.Name n p) [] kws pos) := by
  obtain ⟨f, fd, ps, g, F, hm, hkp, hb⟩ := C.ex
  refine ⟨fun c σ H Q q H1 x pins s I => ?_⟩
  refine wpAny_Call_Name_kw (ld_glob I hg hm ?_ hdb)
  refine PySem.W.callWith_KW0 (h₀ := X.base) I.ok.mod.kin hkp hall ?_ hpl
  refine thn (hk.run c q H1 x pos pins s I) fun ws s2 ⟨zs, H4, I4, rz, H5, x5, _, l2, q2⟩ => ⟨I4.kIn, ?_⟩
  rw [hks]
  exact run_fngNU (us := []) (vs := []) F (c.mono hkj) hb I4 x5 .nil rz rfl (l2.trans hnk.symm) q2
/-! ## f-strings -/
def rJs : List RX → Str → St → Hp → (Str → Hp → Prop) → WX → Prop
  | [], acc, _, H, Q, _ => Q acc H
  | t :: ts, acc, σ, H, Q, W => t σ H (fun v H1 => ∃ y, v = .str y ∧ (acc ++ y).length ≤ sizeLine ∧ rJs ts (acc ++ y) σ H1 Q W) W
def rJoin (ts : List RX) : RX := fun σ H Q W => rJs ts Str.empty σ H (fun y H1 => Q (.str y) H1) W
inductive SJ (X : Cx) (j : Nat) : List RX → List Expr → Prop where
  | nil : SJ X j [] []
  | cons {t : RX} {e : Expr} {ts : List RX} {es : List Expr} (h : SX X j t e) (r : SJ X j ts es) : SJ X j (t :: ts) (e :: es)
theorem SJ.pj {ts : List RX} (h : SJ X j ts es) : PJ X es (es.map (tWE X)) := by
  induction h with
  | nil => exact .nil
  | cons h r ih => exact .cons pe_W ih
theorem SJ.run {ts : List RX} (h : SJ X j ts es) (c : Cn X (upW W) j) : ∀ (acc : Str) (Q Q1 : Str → Hp → Prop) (H H1 : Hp), Ex H H1 → rJs ts acc σ H Q W → (∀ y H' H2, Ex H' H2 → Q y H' → Q1 y H2) → tJs (es.map (tWE X)) acc σ H1 Q1 := by
  induction h with
  | nil => intro acc Q Q1 H H1 x q k; exact k _ _ _ x q
  | cons h r ih =>
    intro acc Q Q1 H H1 x q k
    exact (h.run c q).t x fun v H2 ⟨H3, x3, y, e, hz, q⟩ => ⟨y, e, hz, ih _ _ _ _ _ x3 q k⟩
theorem s_join {ts : List RX} (h : SJ X j ts (a :: b :: es)) : SX X j (rJoin ts) (.JoinedStr (a :: b :: es) pos) := ⟨fun c σ H Q q =>
  .of (pe_joined h.pj) fun H1 x => h.run c _ _ _ _ _ x q fun y H' H2 x2 q => ⟨H', x2, q⟩⟩
def rFmtI (t : RX) : RX := fun σ H Q W => t σ H (fun v H1 => match v with
  | .int i => i.natAbs.log2 < 1920 ∧ Q (.str (toString i)) H1
  | .str y => y.length ≤ sizeLine ∧ Q (.str y) H1
  | _ => False) W
theorem s_fmt (h : SX X j t e) : SX X j (rFmtI t) (.FormattedValue e (-1) none pos) := ⟨fun c _ _ _ q => .of (pe_fmt pe_W) fun H2 x2 => (h.run c q).t x2 fun v H3 ⟨H4, x4, q⟩ => by
  cases v <;> first | exact .inr ⟨_, rfl, q.1, H4, x4, q.2⟩ | exact .inl ⟨_, rfl, q.1, H4, x4, q.2⟩ | exact q.elim⟩
end
/-! ## plain numbers, data of ints -/
def cntM (l h m : Int) : Int := if decide (l ≤ h) = true then h / m - (l - 1) / m else 0
def cntS (v l h : Int) : Int := if v = 0 then 0 else cntM l h (2 * lowb v) + (cntM (if v + 1 > l then v + 1 else l) h (lowb v) - cntM (if v + 1 > l then v + 1 else l) h (2 * lowb v))
theorem lowb_pos {v : Int} (h : 0 < v) : 1 ≤ lowb v := by
  obtain ⟨n, rfl⟩ := Int.eq_ofNat_of_zero_le (Int.le_of_lt h)
  rw [lowb_nat (by omega)]
  have := Nat.and_le_right (n := n) (m := n - 1)
  omega
theorem pal_fits {n : Int} (h0 : 0 ≤ n) (h : n < 1000000000000000000000000000000000000000000000000000000000000000) : CShl 1 ((Builtin.Int.intBits (if n - 1 > 0 then n - 1 else 0) : Nat) : Int) := by
  have hz := small_n h0 h
  have b : Builtin.Int.intBits (if n - 1 > 0 then n - 1 else 0) ≤ 100000 := PyProof.Rows.intBits_le (Nat.lt_of_le_of_lt (by split <;> omega) hz)
  exact shl_ok (n := 1) (by decide) (by omega)
def stepV (n : Int) : V := if decide (n > 0) = true then .int (lowb n) else .non
theorem mulW {i j : Int} (h1 : Wide i) (h2 : Wide j) : CMulX i j := by
  have a := h1.bits
  have b := h2.bits
  show (Builtin.Int.intBits i : Int) + (Builtin.Int.intBits j : Int) ≤ 134217728
  omega
theorem Vals.rev {xs : List V} {us : List Value} (h : Vals xs us) : Vals xs.reverse us.reverse := by
  induction h with
  | nil => exact .nil
  | cons r t ih =>
    rw [List.reverse_cons, List.reverse_cons]
    exact Vals.append ih (.cons r .nil)
theorem dp_ints {K : PySem.W.Frag} {H : Hp} : ∀ xs : List Int, DpAll K H (xs.map V.int) (xs.map PyData.int)
  | [] => .nil
  | x :: xs => .cons (.int x) (dp_ints xs)
theorem fits_ints : ∀ xs : List Int, (∀ x ∈ xs, 0 ≤ x ∧ x < 1000000000000000000000000000000000000000000000000000000000000000) → fitsAll (xs.map PyData.int)
  | [], _ => by simp [fitsAll]
  | x :: xs, h => by
    have h1 := h x (List.mem_cons_self ..)
    simp only [List.map_cons, fitsAll, fits]
    exact ⟨by omega, fits_ints xs fun y hy => h y (List.mem_cons_of_mem _ hy)⟩
theorem bulk_ints : ∀ xs : List Int, PyData.bulkAll (xs.map PyData.int) = xs.length
  | [] => by simp [PyData.bulkAll]
  | x :: xs => by
    simp only [List.map_cons, PyData.bulkAll, PyData.bulk, bulk_ints xs, List.length_cons]
    omega
theorem depth_ints : ∀ xs : List Int, PyData.depthAll (xs.map PyData.int) = 0
  | [] => by simp [PyData.depthAll]
  | x :: xs => by
    simp only [List.map_cons, PyData.depthAll, PyData.depth, depth_ints xs]
    rfl
theorem cntM_b {l h m : Int} (l0 : 0 ≤ l) (h0 : 0 ≤ h) (m0 : 1 ≤ m) (hl : l < 9000000000000000000000000000000000000000000000000000000000000000) (hh : h < 9000000000000000000000000000000000000000000000000000000000000000) :
    -10000000000000000000000000000000000000000000000000000000000000000 < cntM l h m ∧ cntM l h m < 10000000000000000000000000000000000000000000000000000000000000000 := by
  have a1 : 0 ≤ h / m := Int.ediv_nonneg h0 (by omega)
  have a2 : h / m ≤ h := Int.ediv_le_self _ h0
  have a3 : (l - 1) / m ≤ l := by
    by_cases z : l = 0
    · subst z
      exact Int.le_of_lt (Int.ediv_neg_of_neg_of_pos (by decide) (by omega))
    · have := Int.ediv_le_self m (show 0 ≤ l - 1 by omega)
      omega
  have a4 : -1 ≤ (l - 1) / m := by
    have := Int.ediv_le_ediv (show 0 < m by omega) (show -1 ≤ l - 1 by omega)
    have e : (-1 : Int) / m = -1 := Int.ediv_eq_neg_one_of_neg_of_le (by decide) (by omega)
    omega
  unfold cntM
  split <;> omega
theorem cntS_b {v l h : Int} (v0 : 0 ≤ v) (l0 : 0 ≤ l) (h0 : 0 ≤ h) (hv : v < 1000000000000000000000000000000000000000000000000000000000000000) (hl : l < 1000000000000000000000000000000000000000000000000000000000000000) (hh : h < 1000000000000000000000000000000000000000000000000000000000000000) :
    -100000000000000000000000000000000000000000000000000000000000000000 < cntS v l h ∧ cntS v l h < 100000000000000000000000000000000000000000000000000000000000000000 := by
  unfold cntS
  split
  · omega
  · have b1 := lowb_pos (v := v) (by omega)
    have up0 : 0 ≤ (if v + 1 > l then v + 1 else l) ∧ (if v + 1 > l then v + 1 else l) < 9000000000000000000000000000000000000000000000000000000000000000 := by split <;> omega
    generalize (if v + 1 > l then v + 1 else l) = up at up0 ⊢
    have c1 := cntM_b (m := 2 * lowb v) l0 h0 (by omega) (by omega) (by omega)
    have c2 := cntM_b (m := lowb v) up0.1 h0 b1 up0.2 (by omega)
    have c3 := cntM_b (m := 2 * lowb v) up0.1 h0 (by omega) up0.2 (by omega)
    omega
theorem pal_b {n : Int} (h : 0 ≤ n) : 1 ≤ pal n ∧ pal n ≤ 2 * n + 2 := by
  have p : 0 < pal n := Int.pow_pos (by decide)
  have q := (pal_facts h).2
  by_cases z : pal n > 1
  · have := q z
    omega
  · omega
theorem bits_pow {n : Int} : (1 : Int) * 2 ^ ((Builtin.Int.intBits n : Nat) : Int).toNat = 2 ^ Builtin.Int.intBits n := by rw [bits_nat, Int.one_mul]
/-- the powers that are left -/
def pwR : Nat → Int
  | 0 => 0
  | k + 1 => 2 ^ k
theorem pwR_half (k : Nat) : pwR (k + 1) / 2 ^ (1 : Int).toNat = pwR k := by
  show (2 : Int) ^ k / 2 ^ 1 = pwR k
  cases k with
  | zero => rfl
  | succ k =>
    show (2 : Int) ^ (k + 1) / 2 = 2 ^ k
    rw [Int.pow_succ]
    exact Int.mul_ediv_cancel _ (by decide)
section
variable {n m : Nat} {G : Hp → Prop} {Y : Nat → Hp → VK → Prop} {g : RG} {elt : RX} {vs : List Nat} {σ : St} {H : Hp} {Q : VK} {xs : List V} {lo : Int}
theorem wipe_put {v : V} : wipe (put (wipe σ [m]) m v) [m] = wipe σ [m] := by
  show (put (σ.set m none) m v).set m none = σ.set m none
  rw [put_set, List.set_set, List.set_set]
/-- a comprehension without test, one name; each turn leaves the heap as it was; the items are told by P (turn, item) -/
theorem lc_gen (I : Nat → V → Prop) (hy : ∀ i H k, i < n → (∀ x, I i x → k x H) → Y i H k) (P : Nat → V → Prop) (hn : n < 100000) (hG : G H)
    (turn : ∀ i x d acc (R : VK), i < n → I i x → H d = none → (∀ y H5, Ex (upd H d (.lst acc)) H5 → P i y → R y H5) → elt (put (wipe σ [m]) m x) (upd H d (.lst acc)) R noW)
    (done : ∀ ys q, ys.length = n → (∀ i y, ys[i]? = some y → P i y) → H q = none → Q (.ref q) (upd H q (.lst ys))) : LcB n G Y (gName m) tY elt [m] σ H Q :=
  lcB (fun i acc H' => H' = H ∧ acc.length = i ∧ ∀ k y, acc[k]? = some y → P k y) ⟨rfl, rfl, fun _ _ z => by simp at z⟩ (fun i acc H' hi p => by
    obtain ⟨rfl, p, _⟩ := p
    exact ⟨hG, by omega⟩) (fun i acc H' d hi p nd => by
    obtain ⟨rfl, rfl, p⟩ := p
    refine hy _ _ _ hi fun x hx => ⟨wipe_put, fun _ => turn _ x d acc _ hi hx nd fun y H5 x5 hp => ⟨H', nd, x5, rfl, by simp, fun k y' hk => ?_⟩, fun z => nomatch z⟩
    by_cases hk2 : k < acc.length
    · exact p k y' (by rwa [List.getElem?_append_left hk2] at hk)
    · rw [List.getElem?_append_right (by omega)] at hk
      have : k - acc.length = 0 := by
        cases e : k - acc.length with
        | zero => rfl
        | succ j => rw [e] at hk; simp at hk
      have e : k = acc.length := by omega
      subst e
      simp at hk
      exact hk ▸ hp) fun acc H' q p nq => by
    obtain ⟨rfl, hl, p⟩ := p
    exact done acc q hl p nq
theorem lc_rng (P : Nat → V → Prop) (hn : n < 100000) (turn : ∀ i d acc (R : VK), i < n → H d = none → (∀ y H5, Ex (upd H d (.lst acc)) H5 → P i y → R y H5) → elt (put (wipe σ [m]) m (.int i)) (upd H d (.lst acc)) R noW)
    (done : ∀ ys q, ys.length = n → (∀ i y, ys[i]? = some y → P i y) → H q = none → Q (.ref q) (upd H q (.lst ys))) : LcB n (fun _ => True) (fun i H k => k (.int i) H) (gName m) tY elt [m] σ H Q :=
  lc_gen (fun i x => x = .int i) (fun _ _ _ _ k => k _ rfl) P hn trivial (fun i x d acc R hi e nd k => by subst e; exact turn i d acc R hi nd k) done
theorem lc_rg2 (P : Nat → V → Prop) (hn : n < 100000) (turn : ∀ i d acc (R : VK), i < n → H d = none → (∀ y H5, Ex (upd H d (.lst acc)) H5 → P i y → R y H5) → elt (put (wipe σ [m]) m (.int (lo + i))) (upd H d (.lst acc)) R noW)
    (done : ∀ ys q, ys.length = n → (∀ i y, ys[i]? = some y → P i y) → H q = none → Q (.ref q) (upd H q (.lst ys))) : LcB n (fun _ => True) (yRg lo) (gName m) tY elt [m] σ H Q :=
  lc_gen (fun i x => x = .int (lo + i)) (fun _ _ _ _ k => k _ rfl) P hn trivial (fun i x d acc R hi e nd k => by subst e; exact turn i d acc R hi nd k) done
theorem lc_at (P : Nat → V → Prop) (hn : xs.length < 100000) (hG : G H) (turn : ∀ i x d acc (R : VK), xs[i]? = some x → H d = none → (∀ y H5, Ex (upd H d (.lst acc)) H5 → P i y → R y H5) → elt (put (wipe σ [m]) m x) (upd H d (.lst acc)) R noW)
    (done : ∀ ys q, ys.length = xs.length → (∀ i y, ys[i]? = some y → P i y) → H q = none → Q (.ref q) (upd H q (.lst ys))) : LcB xs.length G (yAt xs) (gName m) tY elt [m] σ H Q :=
  lc_gen (fun i x => xs[i]? = some x) (fun _ _ _ _ k => k) P hn hG (fun i x d acc R hi e nd k => turn i x d acc R e nd k) done
/-- with a test: f tells its answer, gx the item -/
theorem lc_fm {tc : RT} (f : V → Bool) (gx : V → V) (hn : xs.length < 100000) (hG : G H)
    (turn : ∀ (i : Nat) x d acc (R : Bool → Hp → Prop), xs[i]? = some x → H d = none → (∀ H5, Ex (upd H d (.lst acc)) H5 → R (f x) H5) → tc (put (wipe σ [m]) m x) (upd H d (.lst acc)) R noW)
    (item : ∀ (i : Nat) x d acc H4 (R : VK), xs[i]? = some x → f x = true → H d = none → Ex (upd H d (.lst acc)) H4 → (∀ H5, Ex (upd H d (.lst acc)) H5 → R (gx x) H5) → elt (put (wipe σ [m]) m x) H4 R noW)
    (done : ∀ q, H q = none → Q (.ref q) (upd H q (.lst ((xs.filter f).map gx)))) : LcB xs.length G (yAt xs) (gName m) tc elt [m] σ H Q :=
  lcB (fun i acc H' => H' = H ∧ acc = ((xs.take i).filter f).map gx) ⟨rfl, by simp⟩ (fun i acc H' hi p => by
    obtain ⟨rfl, rfl⟩ := p
    refine ⟨hG, ?_⟩
    have h1 := List.length_filter_le f (xs.take i)
    have h2 := List.length_take_le i xs
    rw [List.length_map]
    omega) (fun i acc H' d hi p nd => by
    obtain ⟨rfl, rfl⟩ := p
    intro x hx
    have ht : xs.take (i + 1) = xs.take i ++ [x] := by rw [List.take_succ, hx]; rfl
    refine ⟨wipe_put, turn i x d _ _ hx nd fun H5 x5 => ⟨fun hf => item i x d _ _ _ hx hf nd x5 fun H6 x6 => ⟨H', nd, x6, rfl, ?_⟩, fun hf => ⟨H', nd, x5, rfl, ?_⟩⟩⟩
    · rw [ht, List.filter_append, List.map_append]
      simp [List.filter, hf]
    · rw [ht, List.filter_append]
      simp [List.filter, hf]) fun acc H' q p nq => by
    obtain ⟨rfl, rfl⟩ := p
    rw [List.take_length]
    exact done q nq
theorem list3 {ys : List V} (h : ys.length = 3) : ∃ a b c, ys = [a, b, c] := by
  match ys, h with
  | [a, b, c], _ => exact ⟨a, b, c, rfl⟩
theorem all_bl {ys : List V} {b : Bool} (h : ∀ (i : Nat) (y : V), ys[i]? = some y → y = .bl b) : ys = List.replicate ys.length (V.bl b) :=
  List.eq_replicate_iff.mpr ⟨rfl, fun y hy => by
    obtain ⟨i, hi⟩ := List.getElem?_of_mem hy
    exact h i y hi⟩
theorem all_int {ys : List V} {f : Nat → Int} {n : Nat} (hl : ys.length = n) (h : ∀ (i : Nat) (y : V), ys[i]? = some y → y = .int (f i)) : ys = ((List.range n).map f).map V.int := by
  refine List.ext_getElem? fun i => ?_
  rw [List.map_map, List.getElem?_map]
  by_cases hi : i < n
  · obtain ⟨y, hy⟩ : ∃ y, ys[i]? = some y := ⟨ys[i], by simp [hl, hi]⟩
    rw [hy, h i y hy]
    simp [hi]
  · rw [List.getElem?_eq_none (by omega)]
    simp [show n ≤ i by omega]
theorem turns_nat {l m : Int} {i : Nat} (hm : 1 ≤ m) (h : i < (if (if l < m then l else m) > 1 then (if l < m then l else m) else 1).toNat) : (i : Int) < m := by
  split at h <;> (try split at h) <;> omega
theorem turns_ok {l m : Int} (hm : m ≤ 1000000) : -(2 ^ 62) ≤ (if (if l < m then l else m) > 1 then (if l < m then l else m) else 1) ∧ (if (if l < m then l else m) > 1 then (if l < m then l else m) else 1) < 2 ^ 62 := by
  split <;> (try split) <;> omega
/-- an item of a list, whichever -/
theorem ix_any {K : PySem.W.Frag} {l : Addr} {d : Int} (hl : H l = some (.lst xs)) (g : 0 ≤ d) (lt : d < xs.length) (q : ∀ v ∈ xs, Q v H) : oIxL K (.ref l) (.int d) H Q := by
  obtain ⟨k, rfl⟩ := Int.eq_ofNat_of_zero_le g
  have lt : k < xs.length := by omega
  exact ⟨l, xs, _, xs[k], rfl, rfl, .of hl, atI_nat (by simp [lt]), q _ (List.getElem_mem lt)⟩
theorem all_mem {α : Type} {P : α → Prop} : ∀ {xs : List α}, xs.foldr (fun x p => P x ∧ p) True → ∀ v ∈ xs, P v
  | [], _, _, h => nomatch h
  | x :: xs, h, v, hv => by
    rcases List.mem_cons.mp hv with rfl | hv
    · exact h.1
    · exact all_mem h.2 v hv
end
theorem FnG.imp {P : Program} {w : World} {K : PySem.W.Frag} {mg : Str → Option Value} {base : Heap} {k : Nat} {f : Addr} {fd : FuncData} {ps : List Str} {sp sp' : Sp} (F : FnG P w K mg base k f fd ps sp) (h : ∀ vs H Q E, sp' vs H Q E → sp vs H Q E) : FnG P w K mg base k f fd ps sp' :=
  ⟨fun vs H Q E q => F.len vs H Q E (h _ _ _ _ q), fun A outer s H1 args us vs H Q E hr hg e0 hb r x q => F.run A outer s H1 args us vs H Q E hr hg e0 hb r x (h _ _ _ _ q)⟩
/-- what a law's end asks of the law's def -/
def sp_end (K : PySem.W.Frag) : Sp := fun vs H Q _ => ∃ (a : Addr) (ns : List Int), vs = [.ref a] ∧ SqL K H a (ns.map V.int) ∧ ns.length ≤ 63 ∧ ∀ H', Q (.bl true) H'
theorem FnG.atEnd {P : Program} {w : World} {K : PySem.W.Frag} {mg : Str → Option Value} {base : Heap} {k : Nat} {f : Addr} {fd : FuncData} {x : Str} {sp : Sp} (F : FnG P w K mg base k f fd [x] sp)
    (h : ∀ {a : Addr} {ns : List Int} {H : Hp}, SqL K H a (ns.map V.int) → ns.length ≤ 63 → ∀ {Q : VK} {E : XK}, (∀ H, Q (.bl true) H) → sp [.ref a] H Q E) : FnG P w K mg base k f fd [x] (sp_end K) :=
  F.imp fun vs H Q E ⟨a, ns, e, hs, hl, q⟩ => by
    subst e
    exact h hs hl q
/-! ## the order of tuples of ints and bools -/
def num : V → Int
  | .int i => i
  | .bl b => b2i b
  | _ => 0
def sameK : V → V → Bool
  | .int _, .int _ => true
  | .bl _, .bl _ => true
  | _, _ => false
def lexR (r : Int → Int → Bool) : List V → List V → Bool
  | x :: xs, y :: ys => if num x = num y then lexR r xs ys else r (num x) (num y)
  | _, _ => false
theorem lexAt_eq (r : Int → Int → Bool) : ∀ (xs ys p1 p2 : List V), p1.length = p2.length → xs.length = ys.length →
    Ob.lexAt (fun j => decide (num ((p1 ++ xs).getD j .non) = num ((p2 ++ ys).getD j .non))) (fun j => r (num ((p1 ++ xs).getD j .non)) (num ((p2 ++ ys).getD j .non))) false p1.length xs.length = lexR r xs ys
  | [], [], _, _, _, _ => rfl
  | x :: xs, y :: ys, p1, p2, hp, hl => by
    have ih := lexAt_eq r xs ys (p1 ++ [x]) (p2 ++ [y]) (by simp [hp]) (by simpa using hl)
    rw [List.length_cons, Ob.lexAt_succ]
    have g1 : (p1 ++ x :: xs).getD p1.length .non = x := by simp [List.getD_eq_getElem?_getD]
    have g2 : (p2 ++ y :: ys).getD p1.length .non = y := by rw [hp]; simp [List.getD_eq_getElem?_getD]
    rw [g1, g2]
    simp only [List.append_assoc, List.cons_append, List.nil_append, List.length_append, List.length_cons, List.length_nil] at ih
    unfold lexR
    by_cases h : num x = num y
    · rw [if_pos (decide_eq_true h), if_pos h]
      exact ih
    · rw [if_neg (by simpa using h), if_neg h]
theorem sameK_at : ∀ {xs ys : List V} {its its2 : List Value}, Vals xs its → Vals ys its2 → (xs.zip ys).all (fun p => sameK p.1 p.2) = true → ∀ (j : Nat) (h1 : j < its.length) (h2 : j < its2.length),
    (∃ i k t u, its[j] = .int i t ∧ its2[j] = .int k u ∧ num (xs.getD j .non) = i ∧ num (ys.getD j .non) = k) ∨ ∃ a b, its[j] = .bool a ∧ its2[j] = .bool b ∧ num (xs.getD j .non) = b2i a ∧ num (ys.getD j .non) = b2i b
  | x :: _, y :: _, u :: _, v :: _, .cons r1 t1, .cons r2 t2, h, 0, _, _ => by
    simp only [List.zip_cons_cons, List.all_cons, Bool.and_eq_true] at h
    have h := h.1
    match x, y, r1, r2, h with
    | .bl a, .bl b, r1, r2, _ => exact .inr ⟨a, b, r1, r2, rfl, rfl⟩
    | .int i, .int k, ⟨t, e1⟩, ⟨w, e2⟩, _ => exact .inl ⟨i, k, t, w, e1, e2, rfl, rfl⟩
  | _, _, _, _, .cons r1 t1, .cons r2 t2, h, j + 1, h1, h2 => by
    simp only [List.zip_cons_cons, List.all_cons, Bool.and_eq_true] at h
    have := sameK_at t1 t2 h.2 j (by simpa using h1) (by simpa using h2)
    simpa using this
theorem b2i_eq {a b : Bool} : (a == b) = decide (b2i a = b2i b) := by cases a <;> cases b <;> rfl
section
variable {X : Cx} {j : Nat} {W : WX}
theorem tuples_op {op : CmpOp} {r : Int → Int → Bool} {pins : List (Addr × Obj)} {s : Shared} {σ : St} {H : Hp} {a b : Addr} {xs ys : List V} {Q : VK} (I : Inv X pins σ H s) (ha : SqT X.K H a xs) (hb : SqT X.K H b ys) (hl : xs.length = ys.length) (hk : (xs.zip ys).all (fun p => sameK p.1 p.2) = true)
    (rI : ∀ i k t u, Ob.RcOp op X.A.in1 s (.int i t) (.int k u) (r i k)) (rB : ∀ x y, Ob.RcOp op X.A.in1 s (.bool x) (.bool y) (r (b2i x) (b2i y)))
    (T : ∀ (its its2 : List Value) (e q : Nat → Bool), s.heap.IsTuple a its.toArray → s.heap.IsTuple b its2.toArray → its.length = its2.length → (∀ j (h1 : j < its.toArray.size) (h2 : j < its2.toArray.size), SeqAt.EqAt X.A.in1 s its.toArray[j] its2.toArray[j] (e j)) →
      (∀ j (h1 : j < its.toArray.size) (h2 : j < its2.toArray.size), e j = false → Ob.RcOp op X.A.in1 s its.toArray[j] its2.toArray[j] (q j)) → Ob.RcOp op X.A s (.ref a) (.ref b) (Ob.lexAt e q false 0 its.length))
    (q : Q (.bl (lexR r xs ys)) H) (hc : compareOp op (.ref a) (.ref b) = richCompare op (.ref a) (.ref b) := by rfl) : wpAny (model X.prog X.w) X.A (compareOp op (.ref a) (.ref b)) (EP X pins σ Q) X.xe s := by
  obtain ⟨its, r1, p1, _⟩ := I.tuple ha
  obtain ⟨its2, r2, p2, _⟩ := I.tuple hb
  have k := sameK_at r1 r2 hk
  have R := T its its2 (fun j => decide (num (xs.getD j .non) = num (ys.getD j .non))) (fun j => r (num (xs.getD j .non)) (num (ys.getD j .non))) p1 p2 (by rw [← r1.length, ← r2.length]; exact hl) (fun j h1 h2 => by
    simp only [List.getElem_toArray]
    rcases k j (by simpa using h1) (by simpa using h2) with ⟨i, k, t, u, e1, e2, e3, e4⟩ | ⟨x, y, e1, e2, e3, e4⟩
    · rw [e1, e2, e3, e4]
      have z : (i == k) = decide (i = k) := rfl
      rw [← z]
      exact SeqAt.EqAt.int_int _ _ _ _
    · rw [e1, e2, e3, e4, ← b2i_eq]
      exact SeqAt.EqAt.bool_bool _ _) (fun j h1 h2 _ => by
    simp only [List.getElem_toArray]
    rcases k j (by simpa using h1) (by simpa using h2) with ⟨i, k, t, u, e1, e2, e3, e4⟩ | ⟨x, y, e1, e2, e3, e4⟩
    · rw [e1, e2, e3, e4]
      exact rI _ _ _ _
    · rw [e1, e2, e3, e4]
      exact rB _ _)
  have e := lexAt_eq r xs ys [] [] rfl hl
  simp only [List.nil_append, List.length_nil] at e
  rw [← r1.length, e] at R
  rw [hc]
  exact R X.prog X.w X.xe (EP X pins σ Q) ⟨.bl _, H, I, rfl, q⟩
def oLexT (K : PySem.W.Frag) (r : Int → Int → Bool) : RO := fun x y H Q => ∃ a b xs ys, x = .ref a ∧ y = .ref b ∧ SqT K H a xs ∧ SqT K H b ys ∧ xs.length = ys.length ∧ (xs.zip ys).all (fun p => sameK p.1 p.2) = true ∧ Q (.bl (lexR r xs ys)) H
abbrev oGtT (K : PySem.W.Frag) : RO := oLexT K fun i j => decide (j < i)
abbrev oLtT (K : PySem.W.Frag) : RO := oLexT K fun i j => decide (i < j)
theorem so_lex {op : CmpOp} {r : Int → Int → Bool} (h : ∀ pins s σ H a b xs ys (Q : VK), Inv X pins σ H s → SqT X.K H a xs → SqT X.K H b ys → xs.length = ys.length → (xs.zip ys).all (fun p => sameK p.1 p.2) = true → Q (.bl (lexR r xs ys)) H → wpAny (model X.prog X.w) X.A (compareOp op (.ref a) (.ref b)) (EP X pins σ Q) X.xe s) : SO X (compareOp op) (oLexT X.K r) :=
  fun x y H Q ⟨a, b, xs, ys, e1, e2, ha, hb, hl, hk, q⟩ => by
    subst e1; subst e2
    intro H1 e pins s σ v u I rx ry
    cases rx
    cases ry
    exact h pins s σ H1 a b xs ys _ I (e.sqT ha) (e.sqT hb) hl hk ⟨H, e, q⟩
theorem o_gtT (hu : X.A.units < cLine) : SO X (compareOp .Gt) (oGtT X.K) := so_lex fun pins s σ H a b xs ys Q I ha hb hl hk q =>
  tuples_op I ha hb hl hk (fun i k t u => Ob.RcOp.gt_int _ _ _ _) (fun x y => fun _ _ _ _ h => PyProof.Rows.gt_bool h) (fun its its2 e q p1 p2 hz he hr => by
    have R := Ob.RcOp.tuples_gt p1 p2 hu he hr
    have e0 : decide (its.toArray.size > its2.toArray.size) = false := by simp [hz]
    have e1 : min its.toArray.size its2.toArray.size = its.length := by simp [hz]
    rw [e0, e1] at R
    exact R) q
theorem o_ltT (hu : X.A.units < cLine) : SO X (compareOp .Lt) (oLtT X.K) := so_lex fun pins s σ H a b xs ys Q I ha hb hl hk q =>
  tuples_op I ha hb hl hk (fun i k t u => Ob.RcOp.lt_int _ _ _ _) (fun x y => fun _ _ _ _ h => PyProof.Rows.lt_bool h) (fun its its2 e q p1 p2 hz he hr => by
    have R := Ob.RcOp.tuples_lt p1 p2 hu he hr
    have e0 : decide (its.toArray.size < its2.toArray.size) = false := by simp [hz]
    have e1 : min its.toArray.size its2.toArray.size = its.length := by simp [hz]
    rw [e0, e1] at R
    exact R) q
/-- with the room of the def around -/
def SOr (X : Cx) (f : Value → Value → Sem Value) (r : RO) : Prop := X.A.units < cLine → SO X f r
theorem b_cmpr {op : CmpOp} {r : RO} {a b : Expr} {pos : Pos} {ta tb : RX} (ho : SOr X (compareOp op) r) (ha : SX X j ta a) (hb : SX X j tb b) (hm : behindInMarks op b = false := by first | exact nomark _ | with_unfolding_all rfl) : SB X j (tCmp r ta tb) (.Compare a [op] [b] pos) :=
  ⟨fun c _ _ _ h => (b_cmp (ho (by have := hu_of c.room; omega)) ha hb hm).run c h⟩
theorem s_cmpr {op : CmpOp} {r : RO} {a b : Expr} {pos : Pos} {ta tb : RX} (ho : SOr X (compareOp op) r) (ha : SX X j ta a) (hb : SX X j tb b) (hm : behindInMarks op b = false := by first | exact nomark _ | with_unfolding_all rfl) : SX X j (rBin r ta tb) (.Compare a [op] [b] pos) :=
  ⟨fun c _ _ _ h => (s_cmp (ho (by have := hu_of c.room; omega)) ha hb hm).run c h⟩
/-! ## sorted of ints -/
def cSorted (K : PySem.W.Frag) : RC := c1 fun x H Q => ∃ (a : Addr) (ns : List Int), x = .ref a ∧ SqL K H a (ns.map V.int) ∧ ∀ (ns' : List Int) (p : Addr), ns'.Perm ns → ns'.Pairwise (· ≤ ·) → H p = none → Q (.ref p) (upd H p (.lst (ns'.map V.int)))
theorem c_sorted : SC X (.builtin "sorted") (cSorted X.K) := sc1 fun x H Q ⟨a, ns, e, hs, q⟩ => by
  subst e
  exact .of cr_sortedI fun H1 x => ⟨a, ns, rfl, x.sqL hs, fun ns' p h1 h2 n => ⟨_, x.set p _, q ns' p h1 h2 (x.free n)⟩⟩
end
/-! ## steps, counts -/
theorem lowb_ex : ∀ {n : Nat}, 0 < n → ∃ j : Nat, lowb (n : Int) = 2 ^ j ∧ (n : Int) % 2 ^ j = 0 ∧ (n : Int) % (2 * 2 ^ j) ≠ 0 := fun {n} => by
  induction n using Nat.strongRecOn with
  | _ n ih =>
    intro h
    have key : ∃ j : Nat, (n : Int) % 2 ^ j = 0 ∧ (n : Int) % (2 * 2 ^ j) ≠ 0 := by
      by_cases hp : n % 2 = 1
      · exact ⟨0, by omega, by omega⟩
      · obtain ⟨m, rfl⟩ : ∃ m, n = 2 * m := ⟨n / 2, by omega⟩
        obtain ⟨j, -, h1, h2⟩ := ih m (by omega) (by omega)
        refine ⟨j + 1, ?_, fun z => h2 ?_⟩
        · rw [Int.pow_succ, Int.mul_comm, Int.natCast_mul]
          show (2 : Int) * m % (2 * 2 ^ j) = 0
          rw [Int.mul_emod_mul_of_pos _ _ (by decide), h1]
          rfl
        · rw [Int.pow_succ, Int.mul_comm (2 ^ j), Int.natCast_mul] at z
          have z : (2 : Int) * m % (2 * (2 * 2 ^ j)) = 0 := z
          rw [Int.mul_emod_mul_of_pos _ _ (by decide)] at z
          omega
    obtain ⟨j, h1, h2⟩ := key
    exact ⟨j, lowb_is (by omega) h1 h2, h1, h2⟩
theorem lowb_two {n : Int} (h : 0 < n) : ∃ j : Nat, lowb n = 2 ^ j ∧ n % 2 ^ j = 0 ∧ n % (2 * 2 ^ j) ≠ 0 := by
  obtain ⟨m, rfl⟩ := Int.eq_ofNat_of_zero_le (Int.le_of_lt h)
  exact lowb_ex (by omega)
theorem pow_dvd {i j : Nat} {x : Int} (h : i ≤ j) (hx : x % 2 ^ j = 0) : x % 2 ^ i = 0 := by
  obtain ⟨k, rfl⟩ := Nat.le.dest h
  have d : (2 : Int) ^ i ∣ 2 ^ (i + k) := ⟨2 ^ k, Int.pow_add 2 i k⟩
  exact Int.emod_eq_zero_of_dvd (Int.dvd_trans d (Int.dvd_of_emod_eq_zero hx))
theorem pow_lt {i j : Nat} : (2 : Int) ^ i < 2 ^ j ↔ i < j := by
  constructor
  · intro h
    rcases Nat.lt_or_ge i j with z | z
    · exact z
    · have := pow_mono z
      omega
  · intro h
    have h1 := pow_mono (show i + 1 ≤ j from h)
    have h2 : (2 : Int) ^ (i + 1) = 2 * 2 ^ i := by rw [Int.pow_succ, Int.mul_comm]
    have h3 : (0 : Int) < 2 ^ i := Int.pow_pos (by decide)
    omega
/-- a greater step: twice the step divides it -/
theorem lowb_gt {x v : Int} (hx : 0 < x) (hv : 0 < v) : lowb v < lowb x ↔ x % (2 * lowb v) = 0 := by
  obtain ⟨i, e1, a1, b1⟩ := lowb_two hx
  obtain ⟨j, e2, a2, b2⟩ := lowb_two hv
  rw [e1, e2, pow_lt]
  have e3 : (2 : Int) * 2 ^ j = 2 ^ (j + 1) := by rw [Int.pow_succ, Int.mul_comm]
  have e4 : (2 : Int) * 2 ^ i = 2 ^ (i + 1) := by rw [Int.pow_succ, Int.mul_comm]
  rw [e3]
  rw [e4] at b1
  constructor
  · intro h
    exact pow_dvd h a1
  · intro h
    rcases Nat.lt_or_ge j i with z | z
    · exact z
    · exact absurd (pow_dvd (Nat.succ_le_succ z) h) b1
theorem lowb_ge {x v : Int} (hx : 0 < x) (hv : 0 < v) : lowb v ≤ lowb x ↔ x % lowb v = 0 := by
  obtain ⟨i, e1, a1, b1⟩ := lowb_two hx
  obtain ⟨j, e2, a2, b2⟩ := lowb_two hv
  rw [e1, e2]
  constructor
  · intro h
    have : j ≤ i := by
      rcases Nat.lt_or_ge i j with z | z
      · have := pow_lt.mpr z
        omega
      · exact z
    exact pow_dvd this a1
  · intro h
    rcases Nat.lt_or_ge i j with z | z
    · have e4 : (2 : Int) * 2 ^ i = 2 ^ (i + 1) := by rw [Int.pow_succ, Int.mul_comm]
      rw [e4] at b1
      exact absurd (pow_dvd z h) b1
    · exact pow_mono z
/-- how many there are: h / m - (l - 1) / m, one by one -/
def ctM (a h m : Int) : Int := h / m - (a - 1) / m
theorem div_step {h m : Int} (hm : 0 < m) : (h + 1) / m = h / m + if (h + 1) % m = 0 then 1 else 0 := by
  have e1 := Int.mul_ediv_add_emod h m
  have e2 := Int.mul_ediv_add_emod (h + 1) m
  have r1 := Int.emod_nonneg h (show m ≠ 0 by omega)
  have r2 := Int.emod_lt_of_pos h hm
  have s1 := Int.emod_nonneg (h + 1) (show m ≠ 0 by omega)
  have s2 := Int.emod_lt_of_pos (h + 1) hm
  generalize h / m = a at *
  generalize (h + 1) / m = b at *
  generalize h % m = p at *
  generalize (h + 1) % m = q at *
  have e : m * (b - a) = p + 1 - q := by rw [Int.mul_sub]; omega
  have b1 : b - a ≤ 1 := by
    rcases Int.lt_or_le 1 (b - a) with z | z
    · have := Int.mul_le_mul_of_nonneg_left (show 2 ≤ b - a by omega) (Int.le_of_lt hm)
      omega
    · exact z
  have b0 : 0 ≤ b - a := by
    rcases Int.lt_or_le (b - a) 0 with z | z
    · have := Int.mul_le_mul_of_nonneg_left (show b - a ≤ -1 by omega) (Int.le_of_lt hm)
      omega
    · exact z
  have hc : b - a = 0 ∨ b - a = 1 := by omega
  rcases hc with z | z
  · rw [z, Int.mul_zero] at e
    rw [if_neg (by omega)]
    omega
  · rw [z, Int.mul_one] at e
    rw [if_pos (by omega)]
    omega
theorem cntM_ct {a h m : Int} (hh : a ≤ h + 1) : cntM a h m = ctM a h m := by
  unfold cntM ctM
  by_cases z : a ≤ h
  · rw [if_pos (decide_eq_true z)]
  · rw [if_neg (by simpa using z), show a - 1 = h by omega]
    omega
theorem cntM_empty {a h m : Int} (hh : h < a) : cntM a h m = 0 := by
  unfold cntM
  rw [if_neg (by simpa using hh)]
theorem cntM_add {a k h m : Int} (h1 : a ≤ k + 1) (h2 : k ≤ h) : cntM a k m + cntM (k + 1) h m = cntM a h m := by
  rw [cntM_ct h1, cntM_ct (by omega), cntM_ct (by omega)]
  unfold ctM
  rw [show k + 1 - 1 = k by omega]
  omega
theorem cntM_succ {a h m : Int} (h1 : a ≤ h + 1) (hm : 0 < m) : cntM a (h + 1) m = cntM a h m + if (h + 1) % m = 0 then 1 else 0 := by
  rw [cntM_ct h1, cntM_ct (by omega)]
  unfold ctM
  rw [div_step hm]
  omega
theorem cntS_add {v a k h : Int} (h1 : a ≤ k + 1) (h2 : k ≤ h) : cntS v a k + cntS v (k + 1) h = cntS v a h := by
  unfold cntS
  by_cases hv : v = 0
  · simp [hv]
  · rw [if_neg hv, if_neg hv, if_neg hv]
    have e1 := cntM_add (m := 2 * lowb v) h1 h2
    have key : ∀ m, cntM (if v + 1 > a then v + 1 else a) k m + cntM (if v + 1 > k + 1 then v + 1 else k + 1) h m = cntM (if v + 1 > a then v + 1 else a) h m := fun m => by
      by_cases hk : v ≤ k
      · rw [show (if v + 1 > k + 1 then v + 1 else k + 1) = k + 1 by split <;> omega]
        exact cntM_add (by split <;> omega) h2
      · rw [show (if v + 1 > k + 1 then v + 1 else k + 1) = v + 1 by split <;> omega, show (if v + 1 > a then v + 1 else a) = v + 1 by split <;> omega, cntM_empty (by omega)]
        omega
    have e2 := key (lowb v)
    have e3 := key (2 * lowb v)
    omega
theorem cntS_empty {v a h : Int} (hh : h < a) : cntS v a h = 0 := by
  unfold cntS
  split
  · rfl
  · rw [cntM_empty hh, cntM_empty (by split <;> omega), cntM_empty (by split <;> omega)]
    rfl
/-- one more version: does it precede v -/
theorem cntS_succ {v a h : Int} (v0 : 0 ≤ v) (a0 : 0 ≤ a) (h1 : a ≤ h + 1) : cntS v a (h + 1) = cntS v a h + if precB (h + 1) v = true then 1 else 0 := by
  unfold cntS
  by_cases hv : v = 0
  · subst hv
    rw [if_pos rfl, if_pos rfl, if_neg]
    · rfl
    · unfold precB
      simp
  · rw [if_neg hv, if_neg hv]
    have lp := lowb_pos (v := v) (by omega)
    rw [cntM_succ h1 (by omega)]
    have up : ∀ m : Int, 0 < m → cntM (if v + 1 > a then v + 1 else a) (h + 1) m = cntM (if v + 1 > a then v + 1 else a) h m + if v < h + 1 ∧ (h + 1) % m = 0 then 1 else 0 := fun m hm => by
      by_cases z : v < h + 1
      · rw [cntM_succ (by split <;> omega) hm]
        simp [z]
      · rw [cntM_empty (by split <;> omega), cntM_empty (by split <;> omega)]
        simp [z]
    rw [up _ lp, up _ (by omega)]
    by_cases z : h + 1 = 0
    · rw [z]
      have : precB 0 v = true := by unfold precB; simp; omega
      rw [this]
      simp [show ¬ v < 0 by omega]
      omega
    · have hx : 0 < h + 1 := by omega
      have g := lowb_gt hx (show 0 < v by omega)
      have ge := lowb_ge hx (show 0 < v by omega)
      have e : precB (h + 1) v = if lowb (h + 1) = lowb v then decide (h + 1 > v) else decide (lowb (h + 1) > lowb v) := by
        unfold precB
        rw [if_neg]
        simp [z, hv]
      rw [e]
      by_cases q1 : (h + 1) % (2 * lowb v) = 0
      · have l := g.mpr q1
        have q2 := ge.mp (Int.le_of_lt l)
        rw [if_neg (show ¬ lowb (h + 1) = lowb v by omega)]
        simp [q1, q2, l]
        omega
      · have l := fun z => q1 (g.mp z)
        by_cases q2 : (h + 1) % lowb v = 0
        · have l2 := ge.mpr q2
          have l3 : lowb (h + 1) = lowb v := by omega
          rw [if_pos l3]
          by_cases q3 : v < h + 1 <;> simp [q1, q2, q3]
          omega
        · have l2 := fun z => q2 (ge.mp z)
          rw [if_neg (show ¬ lowb (h + 1) = lowb v by omega)]
          simp [q1, q2, show ¬ lowb (h + 1) > lowb v by omega]
/-- counts over l, l + 1, .. -/
theorem cnt_range (f : Int → Int) (p : Int → Bool) (l : Int) (h0 : f (l - 1) = 0) (hs : ∀ h, l ≤ h + 1 → f (h + 1) = f h + if p (h + 1) = true then 1 else 0) : ∀ n : Nat, f (l + n - 1) = (((List.range n).map fun (i : Nat) => l + (i : Int)).filter p).length
  | 0 => by simpa using h0
  | n + 1 => by
    have ih := cnt_range f p l h0 hs n
    have st := hs (l + n - 1) (by omega)
    rw [show l + (n : Int) - 1 + 1 = l + n by omega] at st
    rw [List.range_succ, List.map_append, List.filter_append, List.length_append, show l + ((n + 1 : Nat) : Int) - 1 = l + n by omega, st, ih]
    cases e : p (l + n) <;> simp [e]

local macro_rules | `(tactic| walk_at "G:heap") => `(tactic| first
  | with_reducible assumption
  | with_reducible exact upd_same
  | ((with_reducible apply SqL.of); walk_at "G:heap")
  | ((with_reducible apply SqT.of); walk_at "G:heap")
  | ((with_reducible apply hp_ne); (focus (with_reducible assumption)); walk_at "G:heap"))
local macro_rules | `(tactic| walk_at "G:ex") => `(tactic| first
  | with_reducible exact Ex.refl _
  | with_reducible assumption
  | ((with_reducible apply Ex.new); (focus (walk_at "G:ex")); with_reducible assumption)
  | ((with_reducible apply exput); (focus (walk_at "G:ex")); walk_at "G:heap"))
local macro_rules | `(tactic| walk_at "G:exb") => `(tactic| first
  | with_reducible exact ExB.refl
  | ((with_reducible apply ExB.set); walk_at "G:exb")
  | ((with_reducible apply ExB.new); (focus (walk_at "G:exb")); with_reducible assumption))
local macro_rules | `(tactic| walk_at "G:ty") => `(tactic| first
  | with_reducible assumption
  | with_reducible exact Ty.int _
  | with_reducible exact Ty.bl _
  | with_reducible exact Ty.str _
  | with_reducible exact Ty.non
  | ((with_reducible apply Ty.lst); (focus (walk_at "G:heap")))
  | ((with_reducible apply Ty.tup); (focus (walk_at "G:heap")))
  | ((with_reducible apply Ty.dct); (focus (walk_at "G:heap"))))
local macro_rules | `(tactic| walk_at "G:tyn") => `(tactic| first | exact .inl rfl | exact .inr (.inl rfl) | exact .inr (.inr (.inl rfl)) | exact .inr (.inr (.inr (.inl rfl))) | exact .inr (.inr (.inr (.inr (.inl rfl)))) | exact .inr (.inr (.inr (.inr (.inr rfl)))))
local macro_rules | `(tactic| walk_at "G:ix") => `(tactic| first | with_reducible assumption | ((with_reducible apply atI_nat); with_reducible assumption) | rfl)
local macro_rules | `(tactic| walk_at "G:side") => `(tactic| first | with_reducible assumption | omega | decide | (simp; done) | (simp; omega))
local macro_rules | `(tactic| walk_at "G:mod") => `(tactic| first | omega | decide)
local macro_rules | `(tactic| walk_at "G:fdiv") => `(tactic| (apply fdiv_ok; (focus (first | omega | decide)); first | omega | decide +kernel))
local macro_rules | `(tactic| walk_at "G:dig") => `(tactic| (apply And.intro; (focus (first | omega | decide +kernel)); first | omega | decide +kernel))
local macro_rules | `(tactic| walk_at "G:mul") => `(tactic| first
  | (apply mul_okL <;> omega)
  | (apply mul_okR <;> omega))
local macro_rules | `(tactic| walk_at "G:pow") => `(tactic| (apply pow_ok <;> omega))
local macro_rules | `(tactic| walk_at "G:shl") => `(tactic| (apply shl_fits <;> omega))
local macro_rules | `(tactic| walk_at "G:dp") => `(tactic| first
  | with_reducible assumption
  | with_reducible exact Dp.non
  | with_reducible exact Dp.bl _
  | with_reducible exact Dp.int _
  | with_reducible exact Dp.str _
  | with_reducible exact DpAll.nil
  | ((with_reducible apply DpAll.cons); (focus (walk_at "G:dp")); walk_at "G:dp")
  | ((with_reducible apply Dp.lst); (focus (walk_at "G:heap")); walk_at "G:dp")
  | ((with_reducible apply Dp.tup); (focus (walk_at "G:heap")); walk_at "G:dp"))
local macro_rules | `(tactic| walk_at "G:rp") => `(tactic| (refine RpOk.mk ?_ ?_ ?_; (focus (simp [fits, fitsAll]; try omega)); (focus (simp [PyData.bulk, PyData.bulkAll]; try omega)); (simp [PyData.depth, PyData.depthAll]; try omega)))
local macro_rules | `(tactic| walk_at "G:vis") => `(tactic| first | exact .inl rfl | exact .inr (.inl rfl) | exact .inr (.inr rfl))
local macro_rules | `(tactic| walk_at "vc") => `(tactic| ((conv => whnf); (try dsimp only)))
def top (i : Nat) : Stmt := PySem.Challenge.pw_sampledversions_k14_counts_by_division.main.body.getD i (.Pass ⟨0, 0, 0, 0⟩)
abbrev s_is_int : Stmt := top 5
theorem sc_is_int : FnScope ["value"] ["value"] (defScope s_is_int) := ⟨rfl, rfl, rfl, by decide +kernel, rfl, by decide +kernel, by decide +kernel⟩
abbrev s_is_version : Stmt := top 6
theorem sc_is_version : FnScope ["value"] ["value"] (defScope s_is_version) := ⟨rfl, rfl, rfl, by decide +kernel, rfl, by decide +kernel, by decide +kernel⟩
abbrev s_want_version : Stmt := top 8
theorem sc_want_version : FnScope ["value"] ["value"] (defScope s_want_version) := ⟨rfl, rfl, rfl, by decide +kernel, rfl, by decide +kernel, by decide +kernel⟩
abbrev s_want_number : Stmt := top 9
theorem sc_want_number : FnScope ["value", "least"] ["value", "least"] (defScope s_want_number) := ⟨rfl, rfl, rfl, by decide +kernel, rfl, by decide +kernel, by decide +kernel⟩
abbrev s_lowest_bit : Stmt := top 10
theorem sc_lowest_bit : FnScope ["version"] ["version"] (defScope s_lowest_bit) := ⟨rfl, rfl, rfl, by decide +kernel, rfl, by decide +kernel, by decide +kernel⟩
abbrev s_count_multiples : Stmt := top 11
theorem sc_count_multiples : FnScope ["low", "high", "divisor"] ["low", "high", "divisor"] (defScope s_count_multiples) := ⟨rfl, rfl, rfl, by decide +kernel, rfl, by decide +kernel, by decide +kernel⟩
abbrev s_count_stronger : Stmt := top 12
theorem sc_count_stronger : FnScope ["version", "low", "high", "own_step", "above", "alike"] ["version", "low", "high"] (defScope s_count_stronger) := ⟨rfl, rfl, rfl, by decide +kernel, rfl, by decide +kernel, by decide +kernel⟩
abbrev s__law_pot : Stmt := top 14
theorem sc__law_pot : FnScope ["_law_script", "_law_k", "_law_cell"] ["_law_script", "_law_k"] (defScope s__law_pot) := ⟨rfl, rfl, rfl, by decide +kernel, rfl, by decide +kernel, by decide +kernel⟩
abbrev s__law_digit : Stmt := top 15
theorem sc__law_digit : FnScope ["_law_pot_here", "_law_many", "_law_digit_here"] ["_law_pot_here", "_law_many"] (defScope s__law_digit) := ⟨rfl, rfl, rfl, by decide +kernel, rfl, by decide +kernel, by decide +kernel⟩
abbrev s__law_pick : Stmt := top 16
theorem sc__law_pick : FnScope ["_law_pot_here", "_law_some"] ["_law_pot_here", "_law_some"] (defScope s__law_pick) := ⟨rfl, rfl, rfl, by decide +kernel, rfl, by decide +kernel, by decide +kernel⟩
abbrev s__law_version : Stmt := top 17
theorem sc__law_version : FnScope ["_law_pot_here", "_law_way"] ["_law_pot_here"] (defScope s__law_version) := ⟨rfl, rfl, rfl, by decide +kernel, rfl, by decide +kernel, by decide +kernel⟩
abbrev s__law_power : Stmt := top 18
theorem sc__law_power : FnScope ["_law_version_here", "_law_found"] ["_law_version_here"] (defScope s__law_power) := ⟨rfl, rfl, rfl, by decide +kernel, rfl, by decide +kernel, by decide +kernel⟩
abbrev s__law_key : Stmt := top 19
theorem sc__law_key : FnScope ["_law_version_here"] ["_law_version_here"] (defScope s__law_key) := ⟨rfl, rfl, rfl, by decide +kernel, rfl, by decide +kernel, by decide +kernel⟩
abbrev s__law_short_right : Stmt := top 20
theorem sc__law_short_right : FnScope ["_law_pot_here", "_law_low", "_law_high", "_law_divisor", "_law_version_here", "_law_some", "_law_k", "_law_multiples", "_law_one", "_law_stronger", "_law_told"] ["_law_pot_here"] (defScope s__law_short_right) := ⟨rfl, rfl, rfl, by decide +kernel, rfl, by decide +kernel, by decide +kernel⟩
abbrev s__law_wide_right : Stmt := top 21
theorem sc__law_wide_right : FnScope ["_law_pot_here", "_law_cuts", "_law_k", "_law_low", "_law_middle", "_law_high", "_law_divisor", "_law_version_here", "_law_whole", "_law_parts", "_law_told"] ["_law_pot_here"] (defScope s__law_wide_right) := ⟨rfl, rfl, rfl, by decide +kernel, rfl, by decide +kernel, by decide +kernel⟩
abbrev s_law : Stmt := top 22
theorem sc_law : FnScope ["_law_script", "_law_k", "_law_pot_here", "_law_turn", "_law_low", "_law_ends", "_law_divisor", "_law_told"] ["_law_script"] (defScope s_law) := ⟨rfl, rfl, rfl, by decide +kernel, rfl, by decide +kernel, by decide +kernel⟩
structure All (K : PySem.W.Frag) (mg : Str → Option Value) where
  is_int : Def K mg "is_int" s_is_int ["value"]
  is_version : Def K mg "is_version" s_is_version ["value"]
  want_version : Def K mg "want_version" s_want_version ["value"]
  want_number : Def K mg "want_number" s_want_number ["value", "least"]
  lowest_bit : Def K mg "lowest_bit" s_lowest_bit ["version"]
  count_multiples : Def K mg "count_multiples" s_count_multiples ["low", "high", "divisor"]
  count_stronger : Def K mg "count_stronger" s_count_stronger ["version", "low", "high"]
  _law_pot : Def K mg "_law_pot" s__law_pot ["_law_script", "_law_k"]
  _law_digit : Def K mg "_law_digit" s__law_digit ["_law_pot_here", "_law_many"]
  _law_pick : Def K mg "_law_pick" s__law_pick ["_law_pot_here", "_law_some"]
  _law_version : Def K mg "_law_version" s__law_version ["_law_pot_here"]
  _law_power : Def K mg "_law_power" s__law_power ["_law_version_here"]
  _law_key : Def K mg "_law_key" s__law_key ["_law_version_here"]
  _law_short_right : Def K mg "_law_short_right" s__law_short_right ["_law_pot_here"]
  _law_wide_right : Def K mg "_law_wide_right" s__law_wide_right ["_law_pot_here"]
  law : Def K mg "law" s_law ["_law_script"]
  InvalidVersion : Addr
  InvalidVersion_g : mg "InvalidVersion" = some (.ref InvalidVersion)
  InvalidVersion_e : ErrC K mg "InvalidVersion" InvalidVersion
  InvalidNumber : Addr
  InvalidNumber_g : mg "InvalidNumber" = some (.ref InvalidNumber)
  InvalidNumber_e : ErrC K mg "InvalidNumber" InvalidNumber
  n_ValueError : mg "ValueError" = none
  n_abs : mg "abs" = none
  n_bool : mg "bool" = none
  n_divmod : mg "divmod" = none
  n_int : mg "int" = none
  n_isinstance : mg "isinstance" = none
  n_len : mg "len" = none
  n_max : mg "max" = none
  n_min : mg "min" = none
  n_range : mg "range" = none
  n_repr : mg "repr" = none
  n_sorted : mg "sorted" = none
section
variable {P : Program} {w : World} {K : PySem.W.Frag} {mg : Str → Option Value} {base : Heap}
def t_is_int (T : All K mg) : RS :=
 zRet (rAnd (rB cIsT (aCons (rVar 0) (aCons (rC (.ty "int")) aNil))) (rNot (rB cIsT (aCons (rVar 0) (aCons (rC (.ty "bool")) aNil)))))
@[irreducible] def sp_is_int (T : All K mg) : Sp := rFn 1 ["value"] (t_is_int T)
theorem ok_is_int (T : All K mg) : Cal P w K mg base "is_int" 1 ["value"] [] (sp_is_int T) := by
 delta sp_is_int; exact T.is_int.rcal sc_is_int fun cd A outer s H1 E1 =>
 (z_one (z_ret (s_and (s_bi c_isT T.n_isinstance PyProof.Rows.boot_isinstance (a_cons (s_var (i := 0) rfl (.inl rfl)) (a_cons (s_ty T.n_int PyProof.Rows.boot_int) a_nil))) (s_one (s_not (s_bi c_isT T.n_isinstance PyProof.Rows.boot_isinstance (a_cons (s_var (i := 0) rfl (.inl rfl)) (a_cons (s_ty T.n_bool PyProof.Rows.boot_bool) a_nil))))))))
def t_is_version (T : All K mg) : RS :=
 zRet (rAnd (rCall (sp_is_int T) [] (aCons (rVar 0) aNil)) (rBin oGe (rVar 0) (rC (.int 0))))
@[irreducible] def sp_is_version (T : All K mg) : Sp := rFn 1 ["value"] (t_is_version T)
theorem ok_is_version (T : All K mg) : Cal P w K mg base "is_version" 2 ["value"] [] (sp_is_version T) := by
 delta sp_is_version; exact T.is_version.rcal sc_is_version fun cd A outer s H1 E1 =>
 (z_one (z_ret (s_and (s_call (ok_is_int T) (a_cons (s_var (i := 0) rfl (.inl rfl)) a_nil)) (s_one (s_cmp o_ge (s_var (i := 0) rfl (.inl rfl)) s_int)))))
def t_want_version (T : All K mg) : RS :=
 zIf (tNot (tV (rCall (sp_is_version T) [] (aCons (rVar 0) aNil))))
 (zRaise T.InvalidVersion (aCons (rC (.str "a version is an integer that is at least 0")) aNil))
 (zNil)
@[irreducible] def sp_want_version (T : All K mg) : Sp := rFn 1 ["value"] (t_want_version T)
theorem ok_want_version (T : All K mg) : Cal P w K mg base "want_version" 3 ["value"] [] (sp_want_version T) := by
 delta sp_want_version; exact T.want_version.rcal sc_want_version fun cd A outer s H1 E1 =>
 (z_one (z_if (b_not (b_val (s_call (ok_is_version T) (a_cons (s_var (i := 0) rfl (.inl rfl)) a_nil))))
 (z_one (z_raise T.InvalidVersion_e (a_cons s_str a_nil)))
 z_nil))
def t_want_number (T : All K mg) : RS :=
 zIf (tOr (tNot (tV (rCall (sp_is_int T) [] (aCons (rVar 0) aNil)))) (tCmp oLt (rVar 0) (rVar 1)))
 (zRaise T.InvalidNumber (aCons (rJoin [rC (.str "an integer that is at least "), rFmtI (rVar 1), rC (.str " is required")]) aNil))
 (zNil)
@[irreducible] def sp_want_number (T : All K mg) : Sp := rFn 2 ["value", "least"] (t_want_number T)
theorem ok_want_number (T : All K mg) : Cal P w K mg base "want_number" 2 ["value", "least"] [] (sp_want_number T) := by
 delta sp_want_number; exact T.want_number.rcal sc_want_number fun cd A outer s H1 E1 =>
 (z_one (z_if (b_ww (w_or (b_not (b_val (s_call (ok_is_int T) (a_cons (s_var (i := 0) rfl (.inl rfl)) a_nil)))) (w_or1 (b_cmp o_lt (s_var (i := 0) rfl (.inl rfl)) (s_var (i := 1) rfl (.inl rfl))))))
 (z_one (z_raise T.InvalidNumber_e (a_cons (s_join (.cons s_str (.cons (s_fmt (s_var (i := 1) rfl (.inl rfl))) (.cons s_str SJ.nil)))) a_nil)))
 z_nil))
def t_lowest_bit (T : All K mg) : RS :=
 zRet (rBin oAnd (rVar 0) (rNeg (rVar 0)))
@[irreducible] def sp_lowest_bit (T : All K mg) : Sp := rFn 1 ["version"] (t_lowest_bit T)
theorem ok_lowest_bit (T : All K mg) : Cal P w K mg base "lowest_bit" 1 ["version"] [] (sp_lowest_bit T) := by
 delta sp_lowest_bit; exact T.lowest_bit.rcal sc_lowest_bit fun cd A outer s H1 E1 =>
 (z_one (z_ret (s_bin o_and (s_var (i := 0) rfl (.inl rfl)) (s_neg (s_var (i := 0) rfl (.inl rfl))))))
def t_count_multiples (T : All K mg) : RS :=
 zCons (zExpr (rCall (sp_want_version T) [] (aCons (rVar 0) aNil)))
 (zCons (zExpr (rCall (sp_want_version T) [] (aCons (rVar 1) aNil)))
 (zCons (zExpr (rCall (sp_want_number T) [] (aCons (rVar 2) (aCons (rC (.int 1)) aNil))))
 (zRet (rIf (tCmp oLe (rVar 0) (rVar 1)) (rBin oSub (rBin oDiv (rVar 1) (rVar 2)) (rBin oDiv (rBin oSub (rVar 0) (rC (.int 1))) (rVar 2))) (rC (.int 0))))))
@[irreducible] def sp_count_multiples (T : All K mg) : Sp := rFn 3 ["low", "high", "divisor"] (t_count_multiples T)
theorem ok_count_multiples (T : All K mg) : Cal P w K mg base "count_multiples" 4 ["low", "high", "divisor"] [] (sp_count_multiples T) := by
 delta sp_count_multiples; exact T.count_multiples.rcal sc_count_multiples fun cd A outer s H1 E1 =>
 (z_cons (z_expr (s_call (ok_want_version T) (a_cons (s_var (i := 0) rfl (.inl rfl)) a_nil)))
 (z_cons (z_expr (s_call (ok_want_version T) (a_cons (s_var (i := 1) rfl (.inl rfl)) a_nil)))
 (z_cons (z_expr (s_call (ok_want_number T) (a_cons (s_var (i := 2) rfl (.inl rfl)) (a_cons s_int a_nil))))
 (z_one (z_ret (s_if (b_cmp o_le (s_var (i := 0) rfl (.inl rfl)) (s_var (i := 1) rfl (.inl rfl))) (s_bin o_sub (s_bin o_div (s_var (i := 1) rfl (.inl rfl)) (s_var (i := 2) rfl (.inl rfl))) (s_bin o_div (s_bin o_sub (s_var (i := 0) rfl (.inl rfl)) s_int) (s_var (i := 2) rfl (.inl rfl)))) s_int))))))
def t_count_stronger (T : All K mg) : RS :=
 zCons (zExpr (rCall (sp_want_version T) [] (aCons (rVar 0) aNil)))
 (zCons (zExpr (rCall (sp_want_version T) [] (aCons (rVar 1) aNil)))
 (zCons (zExpr (rCall (sp_want_version T) [] (aCons (rVar 2) aNil)))
 (zCons (zIf (tCmp oEqI (rVar 0) (rC (.int 0)))
 (zRet (rC (.int 0)))
 (zNil))
 (zCons (zSet 3 (rCall (sp_lowest_bit T) [] (aCons (rVar 0) aNil)))
 (zCons (zSet 4 (rB cMax (aCons (rVar 1) (aCons (rBin oAdd (rVar 0) (rC (.int 1))) aNil))))
 (zCons (zSet 5 (rBin oSub (rCall (sp_count_multiples T) [] (aCons (rVar 4) (aCons (rVar 2) (aCons (rVar 3) aNil)))) (rCall (sp_count_multiples T) [] (aCons (rVar 4) (aCons (rVar 2) (aCons (rBin oMul (rC (.int 2)) (rVar 3)) aNil))))))
 (zRet (rBin oAdd (rCall (sp_count_multiples T) [] (aCons (rVar 1) (aCons (rVar 2) (aCons (rBin oMul (rC (.int 2)) (rVar 3)) aNil)))) (rVar 5)))))))))
@[irreducible] def sp_count_stronger (T : All K mg) : Sp := rFn 3 ["version", "low", "high", "own_step", "above", "alike"] (t_count_stronger T)
theorem ok_count_stronger (T : All K mg) : Cal P w K mg base "count_stronger" 5 ["version", "low", "high"] [] (sp_count_stronger T) := by
 delta sp_count_stronger; exact T.count_stronger.rcal sc_count_stronger fun cd A outer s H1 E1 =>
 (z_cons (z_expr (s_call (ok_want_version T) (a_cons (s_var (i := 0) rfl (.inl rfl)) a_nil)))
 (z_cons (z_expr (s_call (ok_want_version T) (a_cons (s_var (i := 1) rfl (.inl rfl)) a_nil)))
 (z_cons (z_expr (s_call (ok_want_version T) (a_cons (s_var (i := 2) rfl (.inl rfl)) a_nil)))
 (z_cons (z_if (b_cmp o_eqI (s_var (i := 0) rfl (.inl rfl)) s_int)
 (z_one (z_ret s_int))
 z_nil)
 (z_cons (z_set sc_count_stronger.nd rfl (s_call (ok_lowest_bit T) (a_cons (s_var (i := 0) rfl (.inl rfl)) a_nil)))
 (z_cons (z_set sc_count_stronger.nd rfl (s_bi c_max T.n_max PyProof.Rows.boot_max (a_cons (s_var (i := 1) rfl (.inl rfl)) (a_cons (s_bin o_add (s_var (i := 0) rfl (.inl rfl)) s_int) a_nil))))
 (z_cons (z_set sc_count_stronger.nd rfl (s_bin o_sub (s_call (ok_count_multiples T) (a_cons (s_var (i := 4) rfl (.inl rfl)) (a_cons (s_var (i := 2) rfl (.inl rfl)) (a_cons (s_var (i := 3) rfl (.inl rfl)) a_nil)))) (s_call (ok_count_multiples T) (a_cons (s_var (i := 4) rfl (.inl rfl)) (a_cons (s_var (i := 2) rfl (.inl rfl)) (a_cons (s_bin o_mul s_int (s_var (i := 3) rfl (.inl rfl))) a_nil))))))
 (z_one (z_ret (s_bin o_add (s_call (ok_count_multiples T) (a_cons (s_var (i := 1) rfl (.inl rfl)) (a_cons (s_var (i := 2) rfl (.inl rfl)) (a_cons (s_bin o_mul s_int (s_var (i := 3) rfl (.inl rfl))) a_nil)))) (s_var (i := 5) rfl (.inl rfl))))))))))))
def sp__law_pot (K : PySem.W.Frag) : Sp := fun vs H Q _ => ∃ (a : Addr) (ns : List Int) (k : Int), vs = [.ref a, .int k] ∧ SqL K H a (ns.map V.int) ∧ 0 ≤ k ∧ k ≤ 100 ∧ ∀ p, H p = none → Q (.ref p) (upd H p (pot p))
theorem ok__law_pot (T : All K mg) : Cal P w K mg base "_law_pot" 1 ["_law_script", "_law_k"] [] (sp__law_pot K) := by
  refine T._law_pot.cal sc__law_pot (fun vs H Q E h => ?_) fun cd A outer s H1 E1 W vs H Q E c o hW h => ?_
  · obtain ⟨_, _, _, rfl, _⟩ := h; rfl
  obtain ⟨a, ns, k, rfl, hs, k0, k1, q⟩ := h
  show WSs _ _ _ [_, _, _] _
  -- _law_cell = _law_script[_law_k] if _law_k < len(_law_script) else 0
  refine wss_cons (ws_set (i := 2) sc__law_pot.nd rfl ?_)
  refine EV.we (v := .int (if h : k < ns.length then ns[k.toNat]'(by omega) else 0)) (ev_if (et_cmp (ev_var (i := 1) rfl (.inl rfl) rfl) (ev_callB T.n_len PySem.boot_len (ea_cons (ev_var (i := 0) rfl (.inl rfl) rfl) ea_nil) (ec_lenL hs)) eo_lt) (fun h => ?_) fun h => ?_) ?_
  · have h : k < ns.length := by simpa using h
    rw [dif_pos h]
    refine (ev_ixL (ev_var (i := 0) rfl (.inl rfl) rfl) (ev_var (i := 1) rfl (.inl rfl) rfl) hs ?_)
    obtain ⟨n, rfl⟩ := Int.eq_ofNat_of_zero_le k0
    exact atI_nat (by simp [show n < ns.length by omega])
  · have h : ¬ k < ns.length := by simpa using h
    rw [dif_neg h]
    exact ev_int
  generalize (if h : k < ns.length then ns[k.toNat]'(by omega) else 0) = z
  show WSs _ _ _ [_, _, _] _
  -- return [max(0, abs(_law_cell) - 10 ** 18), (abs(_law_cell) % 2147483477 + 101 * _law_k + 3) ** 2 % 2147483399 + 1]
  have hm := Int.emod_nonneg (if z < 0 then -z else z) (show (2147483477 : Int) ≠ 0 by decide)
  have hm2 := Int.emod_lt_of_pos (if z < 0 then -z else z) (show (0 : Int) < 2147483477 by decide)
  refine wss_one (ws_retF ?_)
  refine we_pot ?_
  refine EN.we (en_lst (ea_cons (ev_callB T.n_max PyProof.Rows.boot_max (ea_cons ev_int (ea_cons (ev_bin (ev_callB T.n_abs boot_abs (ea_cons (ev_var (i := 2) rfl (.inl rfl) rfl) ea_nil) ec_abs) (ev_bin ev_int ev_int (eo_pow (by walk_at "G:pow"))) eo_sub) ea_nil)) (ec_max rfl)) (ea_cons (ev_bin (ev_bin (ev_bin (ev_bin (ev_bin (ev_bin (ev_callB T.n_abs boot_abs (ea_cons (ev_var (i := 2) rfl (.inl rfl) rfl) ea_nil) ec_abs) ev_int (eo_mod (by walk_at "G:mod"))) (ev_bin ev_int (ev_var (i := 1) rfl (.inl rfl) rfl) (eo_mul (by walk_at "G:mul"))) eo_add) ev_int eo_add) ev_int (eo_pow (by walk_at "G:pow"))) ev_int (eo_mod (by walk_at "G:mod"))) ev_int eo_add) ea_nil)) (lenle rfl)) fun p0 n0 => ?_
  refine ⟨p0, _, _, upd_same, ⟨by split <;> omega, by omega, by omega⟩, _, ?_, q p0 n0⟩
  rw [upd_upd]
  exact Ex.refl _
def sp__law_digit : Sp := fun vs H Q _ => ∃ p m, vs = [.ref p, .int m] ∧ H p = some (pot p) ∧ DigOk m ∧ ∀ d, 0 ≤ d → d < m → Q (.int d) H
theorem ok__law_digit (T : All K mg) : Cal P w K mg base "_law_digit" 1 ["_law_pot_here", "_law_many"] [] sp__law_digit := by
  refine T._law_digit.cal sc__law_digit (fun vs H Q E h => ?_) fun cd A outer s H1 E1 W vs H Q E c o hW h => ?_
  · obtain ⟨_, _, rfl, _⟩ := h; rfl
  obtain ⟨p, m, rfl, hp, hm, q⟩ := h
  show WSs _ _ _ [_, _, _] _
  refine wss_pot hp fun a b ok => ?_
  obtain ⟨a0, b0, b1⟩ := ok
  have q1 : ∀ a, Q (.int (a % m)) H := fun a => q _ (Int.emod_nonneg _ (by have := hm.1; omega)) (Int.emod_lt_of_pos _ hm.1)
  have fin : ∀ (a b : Int), upd (upd H p (.lst [.int a, .int b])) p (pot p) = H := fun a b => by rw [upd_upd, upd_id hp]
  -- if _law_pot_here[0] > 0:
  refine wss_cons (ws_ifE (et_cmp (ev_ixL (ev_var (i := 0) rfl (.inl rfl) rfl) ev_int (by walk_at "G:heap") (by walk_at "G:ix")) ev_int eo_gt) (fun h0 => ?_) (fun h0 => ?_))
  · -- _law_pot_here[0], _law_digit_here = divmod(_law_pot_here[0], _law_many)
    have h0 : 0 < a := by simpa using h0
    refine wss_cons (ws_asg ?_)
    refine we_callB T.n_divmod PyProof.Rows.boot_divmod ?_
    refine EA.wa (ea_cons (ev_ixL (ev_var (i := 0) rfl (.inl rfl) rfl) ev_int (by walk_at "G:heap") (by walk_at "G:ix")) (ea_cons (ev_var (i := 1) rfl (.inl rfl) rfl) ea_nil)) ?_
    refine CN.wc (cn_divmod (dig_div hm)) fun p1 n1 => ?_
    -- target (_law_pot_here[0], _law_digit_here)
    have hp1 : upd (upd H p (.lst [.int a, .int b])) p1 (.tup [.int (a / m), .int (a % m)]) p = some (.lst [.int a, .int b]) := hp_ne n1 upd_same
    refine wg_tup (by walk_at "G:heap") (wgs_cons (wg_ixL (j := 0) (ev_var (i := 0) rfl (.inl rfl) rfl) ev_int hp1 rfl ?_))
    refine wgs_cons (wg_name (i := 2) sc__law_digit.nd rfl (wgs_nil ?_))
    show WSs _ _ _ [_, _, _] _
    -- return _law_digit_here
    refine wss_one (ws_retF (we_pot (EV.we (ev_var (i := 2) rfl (.inl rfl) rfl) ?_)))
    refine pot_end hp ?_ upd_same ⟨Int.ediv_nonneg a0 (Int.le_of_lt hm.1), b0, b1⟩ (q1 a)
    walk_at "G:exb"
  · refine wss_nilF ⟨_, Ex.refl _, ?_⟩
    show WSs _ _ _ [_, _, _] _
    have e1 := Int.emod_nonneg (b * 48271 + 10037) (show (2147483587 : Int) ≠ 0 by decide)
    have e2 := Int.emod_lt_of_pos (b * 48271 + 10037) (show (0 : Int) < 2147483587 by decide)
    -- _law_pot_here[1] = (_law_pot_here[1] * 48271 + 10037) % 2147483587
    refine wss_cons (ws_asg ?_)
    refine EV.we (ev_bin (ev_bin (ev_bin (ev_ixL (ev_var (i := 0) rfl (.inl rfl) rfl) ev_int (by walk_at "G:heap") (by walk_at "G:ix")) ev_int (eo_mul (by walk_at "G:mul"))) ev_int eo_add) ev_int (eo_mod (by walk_at "G:mod"))) ?_
    refine wg_ixL (j := 1) (ev_var (i := 0) rfl (.inl rfl) rfl) ev_int upd_same rfl ?_
    show WSs _ _ _ [_, _, _] _
    -- return _law_pot_here[1] * _law_pot_here[1] % 2147483563 // 5 % _law_many
    generalize (b * 48271 + 10037) % 2147483587 = z at e1 e2 ⊢
    refine wss_one (ws_retF (we_pot (EV.we (ev_bin (ev_bin (ev_bin (ev_bin (ev_ixL (ev_var (i := 0) rfl (.inl rfl) rfl) ev_int (by walk_at "G:heap") (by walk_at "G:ix")) (ev_ixL (ev_var (i := 0) rfl (.inl rfl) rfl) ev_int (by walk_at "G:heap") (by walk_at "G:ix")) (eo_mul (by walk_at "G:mul"))) ev_int (eo_mod (by walk_at "G:mod"))) ev_int (eo_fdiv (by walk_at "G:fdiv"))) (ev_var (i := 1) rfl (.inl rfl) rfl) (eo_mod hm.1)) ?_)))
    refine pot_end hp ?_ upd_same ⟨a0, e1, by omega⟩ (q1 (z * z % 2147483563 / 5))
    walk_at "G:exb"
def sp__law_pick : Sp := fun vs H Q _ => ∃ p l xs, vs = [.ref p, .ref l] ∧ H p = some (pot p) ∧ H l = some (.lst xs) ∧ 0 < xs.length ∧ xs.length ≤ 1000 ∧ ∀ v, v ∈ xs → Q v H
theorem ok__law_pick (T : All K mg) : Cal P w K mg base "_law_pick" 2 ["_law_pot_here", "_law_some"] [] sp__law_pick := by
  refine T._law_pick.cal sc__law_pick (fun vs H Q E h => ?_) fun cd A outer s H1 E1 W vs H Q E c o hW h => ?_
  · obtain ⟨_, _, _, rfl, _⟩ := h; rfl
  obtain ⟨p, l, xs, rfl, hp, hl, hn, hz, q⟩ := h
  show WSs _ _ _ [_, _] _
  -- return _law_some[_law_digit(_law_pot_here, len(_law_some))]
  refine wss_one (ws_ret ?_)
  refine we_ix ix_list ?_
  refine EV.we (ev_var (i := 1) rfl (.inl rfl) rfl) ?_
  refine we_call (ok__law_digit T) c ?_
  refine EA.wa (ea_cons (ev_var (i := 0) rfl (.inl rfl) rfl) (ea_cons (ev_callB T.n_len PySem.boot_len (ea_cons (ev_var (i := 1) rfl (.inl rfl) rfl) ea_nil) (ec_lenL (by walk_at "G:heap"))) ea_nil)) ?_
  refine ⟨_, _, rfl, by walk_at "G:heap", by walk_at "G:dig", fun d0 g0 l0 => ?_⟩
  obtain ⟨n, rfl⟩ := Int.eq_ofNat_of_zero_le g0
  have hlt : n < xs.length := by omega
  exact fun H3 x3 => ⟨l, xs, _, xs[n], rfl, rfl, .of (x3 _ _ hl), atI_nat (by simp [hlt]), H, x3, q _ (List.getElem_mem hlt)⟩
def sp__law_version : Sp := fun vs H Q _ => ∃ p, vs = [.ref p] ∧ H p = some (pot p) ∧ ∀ v, VerOk v → Q (.int v) H
theorem ok__law_version (T : All K mg) : Cal P w K mg base "_law_version" 2 ["_law_pot_here"] [] sp__law_version := by
  refine T._law_version.cal sc__law_version (fun vs H Q E h => ?_) fun cd A outer s H1 E1 W vs H Q E c o hW h => ?_
  · obtain ⟨_, rfl, _⟩ := h; rfl
  obtain ⟨p, rfl, hp, q⟩ := h
  show WSs _ _ _ [_, _] _
  -- _law_way = _law_digit(_law_pot_here, 4)
  refine wss_cons (ws_set (i := 1) sc__law_version.nd rfl ?_)
  refine we_call (ok__law_digit T) c ?_
  refine EA.wa (ea_cons (ev_var (i := 0) rfl (.inl rfl) rfl) (ea_cons ev_int ea_nil)) ?_
  refine ⟨_, _, rfl, by walk_at "G:heap", by walk_at "G:dig", fun d0 g0 l0 => ?_⟩
  show WSs _ _ _ [_, _] _
  -- if _law_way == 0:
  refine wss_cons (ws_ifE (et_cmp (ev_var (i := 1) rfl (.inl rfl) rfl) ev_int eo_eqI) (fun h1 => ?_) (fun h1 => ?_))
  · -- return _law_digit(_law_pot_here, 40)
    refine wss_one (ws_ret ?_)
    refine we_call (ok__law_digit T) c ?_
    refine EA.wa (ea_cons (ev_var (i := 0) rfl (.inl rfl) rfl) (ea_cons ev_int ea_nil)) ?_
    refine ⟨_, _, rfl, by walk_at "G:heap", by walk_at "G:dig", fun d2 g2 l2 => ?_⟩
    exact q _ ⟨g2, by omega⟩
  · refine wss_nil ?_
    show WSs _ _ _ [_, _] _
    -- if _law_way == 1:
    refine wss_cons (ws_ifE (et_cmp (ev_var (i := 1) rfl (.inl rfl) rfl) ev_int eo_eqI) (fun h3 => ?_) (fun h3 => ?_))
    · -- return _law_digit(_law_pot_here, 10 ** 59)
      refine wss_one (ws_ret ?_)
      refine we_call (ok__law_digit T) c ?_
      refine EA.wa (ea_cons (ev_var (i := 0) rfl (.inl rfl) rfl) (ea_cons (ev_bin ev_int ev_int (eo_pow (by walk_at "G:pow"))) ea_nil)) ?_
      refine ⟨_, _, rfl, by walk_at "G:heap", by walk_at "G:dig", fun d4 g4 l4 => ?_⟩
      have e : (10 : Int) ^ (59 : Int).toNat = 100000000000000000000000000000000000000000000000000000000000 := by decide +kernel
      rw [e] at l4
      exact q _ ⟨g4, by omega⟩
    · refine wss_nil ?_
      show WSs _ _ _ [_, _] _
      have h1 : ¬ d0 = 0 := by simpa using h1
      have h3 : ¬ d0 = 1 := by simpa using h3
      -- return 1 + 2 * _law_digit(_law_pot_here, 50) << _law_digit(_law_pot_here, [6, 180][_law_way - 2])
      refine wss_one (ws_ret ?_)
      refine we_bin ?_
      refine we_bin ?_
      refine EV.we ev_int ?_
      refine we_bin ?_
      refine EV.we ev_int ?_
      refine we_call (ok__law_digit T) c ?_
      refine EA.wa (ea_cons (ev_var (i := 0) rfl (.inl rfl) rfl) (ea_cons ev_int ea_nil)) ?_
      refine ⟨_, _, rfl, by walk_at "G:heap", by walk_at "G:dig", fun d5 g5 l5 => ?_⟩
      refine EO.wo (eo_mul (by walk_at "G:mul")) ?_
      refine EO.wo eo_add ?_
      refine we_call (ok__law_digit T) c ?_
      have ix : atI [V.int 6, V.int 180] (d0 - 2) = some (V.int (if d0 = 2 then 6 else 180)) := by
        have : d0 = 2 ∨ d0 = 3 := by omega
        rcases this with rfl | rfl <;> rfl
      refine EA.wa (ea_cons (ev_var (i := 0) rfl (.inl rfl) rfl) (ea_cons (ev_ixN (en_lst (ea_cons ev_int (ea_cons ev_int ea_nil)) (lenle rfl)) (ev_bin (ev_var (i := 1) rfl (.inl rfl) rfl) ev_int eo_sub) ix) ea_nil)) ?_
      refine ⟨_, _, rfl, by walk_at "G:heap", ⟨by split <;> omega, by split <;> omega⟩, fun d6 g6 l6 => ?_⟩
      have l6 : d6 < 180 := by split at l6 <;> omega
      have b := shl_bound (d := 1 + 2 * d5) (s := d6) (by omega) (by omega) g6 l6
      refine EO.wo (eo_shl (by walk_at "G:shl")) ?_
      have e : (1000 : Int) * 2 ^ 180 < 1000000000000000000000000000000000000000000000000000000000000 := by decide +kernel
      exact q _ ⟨b.1, by omega⟩
def sp__law_power : Sp := fun vs H Q E => ∃ n : Int, vs = [.int n] ∧ n < 1000000000000000000000000000000000000000000000000000000000000000 ∧ Q (.int (if decide (n > 0) = true then lowb n else 0)) H
theorem ok__law_power (T : All K mg) : Cal P w K mg base "_law_power" 1 ["_law_version_here"] [] sp__law_power := by
  refine T._law_power.cal sc__law_power (fun vs H Q E h => ?_) fun cd A outer s H1 E1 W vs H Q E c o hW h => ?_
  · obtain ⟨_, rfl, _⟩ := h; rfl
  obtain ⟨n, rfl, hn, q⟩ := h
  show WSs _ _ _ [_, _] _
  -- _law_found = 1
  refine wss_cons (ws_set (i := 1) sc__law_power.nd rfl ?_)
  refine EV.we ev_int ?_
  show WSs _ _ _ [_, _] _
  -- while _law_version_here > 0 and _law_version_here % (2 * _law_found) == 0:
  refine wss_cons (ws_whileE (c.t o) (fun m σ' H' => H' = H ∧ ∃ j : Nat, σ' = [some (.int n), some (.int (2 ^ j))] ∧ (0 < n → n % (2 ^ j : Int) = 0) ∧ m = (n - 2 ^ j).toNat) _ ⟨rfl, 0, rfl, fun _ => Int.emod_one _, rfl⟩ ?_)
  rintro m σ' H' ⟨rfl, j, rfl, hj, rfl⟩
  have hp : (0 : Int) < 2 ^ j := Int.pow_pos (by decide)
  by_cases h0 : 0 < n
  · have hle := pow_dvd_le h0 (hj h0)
    refine ⟨_, et_ew (ew_and (et_cmp (ev_var (i := 0) rfl (.inl rfl) rfl) ev_int eo_gt) fun _ => (ew_and1 (et_cmp (ev_bin (ev_var (i := 0) rfl (.inl rfl) rfl) (ev_bin ev_int (ev_var (i := 1) rfl (.inl rfl) rfl) (eo_mul (by walk_at "G:mul"))) (eo_mod (by walk_at "G:mod"))) ev_int eo_eqI))), fun ht => ?_, fun hf => ?_⟩
    · -- _law_found = 2 * _law_found
      have e : (2 : Int) * 2 ^ j = 2 ^ (j + 1) := by rw [Int.pow_succ, Int.mul_comm]
      have ht : n % (2 * 2 ^ j : Int) = 0 := by simpa [h0] using ht
      refine wss_one (ws_set (i := 1) sc__law_power.nd rfl ?_)
      refine EV.we (ev_bin ev_int (ev_var (i := 1) rfl (.inl rfl) rfl) (eo_mul (by walk_at "G:mul"))) ?_
      rw [e] at ht ⊢
      have hle2 := pow_dvd_le h0 ht
      refine ⟨_, ?_, rfl, j + 1, rfl, fun _ => ht, rfl⟩
      rw [← e] at hle2 ⊢
      omega
    · have hf : n % (2 * 2 ^ j : Int) ≠ 0 := by simpa [h0] using hf
      rw [lowb_is h0 (hj h0) hf] at q
      -- return _law_found if _law_version_here > 0 else 0
      show WSs _ _ _ [_, _] _
      refine wss_one (ws_ret (EV.we (ev_if2 (et_cmp (ev_var (i := 0) rfl (.inl rfl) rfl) ev_int eo_gt) (fun _ => (ev_var (i := 1) rfl (.inl rfl) rfl)) fun _ => ev_int) ?_))
      have h1 : decide (n > 0) = true := by simpa using h0
      rw [if_pos h1] at q ⊢
      exact q
  · refine ⟨false, ET.is (et_ew (ew_and (k := false) (l := false) ((et_cmp (ev_var (i := 0) rfl (.inl rfl) rfl) ev_int eo_gt).is (by simpa using h0)) fun h => nomatch h)) rfl, (fun h => nomatch h), fun _ => ?_⟩
    show WSs _ _ _ [_, _] _
    refine wss_one (ws_ret (EV.we (ev_if2 (et_cmp (ev_var (i := 0) rfl (.inl rfl) rfl) ev_int eo_gt) (fun _ => (ev_var (i := 1) rfl (.inl rfl) rfl)) fun _ => ev_int) ?_))
    have h1 : ¬ decide (n > 0) = true := by simpa using h0
    rw [if_neg h1] at q ⊢
    exact q
def t__law_key (T : All K mg) : RS :=
 zRet (rTup (aCons (rBin oEqI (rVar 0) (rC (.int 0))) (aCons (rCall sp__law_power [] (aCons (rVar 0) aNil)) (aCons (rVar 0) aNil))))
@[irreducible] def sp__law_key (T : All K mg) : Sp := rFn 1 ["_law_version_here"] (t__law_key T)
theorem ok__law_key (T : All K mg) : Cal P w K mg base "_law_key" 2 ["_law_version_here"] [] (sp__law_key T) := by
 delta sp__law_key; exact T._law_key.rcal sc__law_key fun cd A outer s H1 E1 =>
 (z_one (z_ret (s_tup (a_cons (s_cmp o_eqI (s_var (i := 0) rfl (.inl rfl)) s_int) (a_cons (s_call (ok__law_power T) (a_cons (s_var (i := 0) rfl (.inl rfl)) a_nil)) (a_cons (s_var (i := 0) rfl (.inl rfl)) a_nil))))))
def t__law_short_right (T : All K mg) : RS :=
 zCons (zSet 1 (rCall sp__law_pick [] (aCons (rVar 0) (aCons (rLst (aCons (rC (.int 0)) (aCons (rCall sp__law_digit [] (aCons (rVar 0) (aCons (rC (.int 20)) aNil))) (aCons (rCall sp__law_version [] (aCons (rVar 0) aNil)) aNil)))) aNil))))
 (zCons (zSet 2 (rBin oSub (rBin oAdd (rVar 1) (rCall sp__law_digit [] (aCons (rVar 0) (aCons (rC (.int 31)) aNil)))) (rC (.int 1))))
 (zCons (zSet 3 (rBin oAdd (rC (.int 1)) (rCall sp__law_pick [] (aCons (rVar 0) (aCons (rLst (aCons (rC (.int 0)) (aCons (rC (.int 1)) (aCons (rCall sp__law_digit [] (aCons (rVar 0) (aCons (rC (.int 12)) aNil))) (aCons (rCall sp__law_digit [] (aCons (rVar 0) (aCons (rBin oPow (rC (.int 10)) (rC (.int 30))) aNil))) aNil))))) aNil)))))
 (zCons (zSet 4 (rCall sp__law_pick [] (aCons (rVar 0) (aCons (rLst (aCons (rC (.int 0)) (aCons (rVar 1) (aCons (rBin oAdd (rVar 1) (rCall sp__law_digit [] (aCons (rVar 0) (aCons (rC (.int 31)) aNil)))) (aCons (rCall sp__law_version [] (aCons (rVar 0) aNil)) aNil))))) aNil))))
 (zCons (zIf (tCmp oLt (rVar 2) (rC (.int 0)))
 (zRet (rC (.bl true)))
 (zNil))
 (zCons (zSet 5 (rLc (iR1 (aCons (rBin oAdd (rBin oSub (rVar 2) (rVar 1)) (rC (.int 1))) aNil)) (gName 6) tY (rBin oAdd (rVar 1) (rVar 6)) [6]))
 (zCons (zSet 7 (rB (cLenL K) (aCons (rLc (iL K (rVar 5)) (gName 8) (tCmp oEqI (rBin oMod (rVar 8) (rVar 3)) (rC (.int 0))) (rVar 8) [8]) aNil)))
 (zCons (zSet 9 (rB (cLenL K) (aCons (rLc (iL K (rVar 5)) (gName 8) (tCmp (oGtT K) (rCall (sp__law_key T) [] (aCons (rVar 8) aNil)) (rCall (sp__law_key T) [] (aCons (rVar 4) aNil))) (rVar 8) [8]) aNil)))
 (zCons (zSet 10 (rLst (aCons (rCall (sp_count_multiples T) [] (aCons (rVar 1) (aCons (rVar 2) (aCons (rVar 3) aNil)))) (aCons (rCall (sp_count_stronger T) [] (aCons (rVar 4) (aCons (rVar 1) (aCons (rVar 2) aNil)))) aNil))))
 (zRet (rBin oEqS (rB (cRepr K) (aCons (rVar 10) aNil)) (rB (cRepr K) (aCons (rLst (aCons (rVar 7) (aCons (rVar 9) aNil))) aNil))))))))))))
@[irreducible] def sp__law_short_right (T : All K mg) : Sp := rFn 1 ["_law_pot_here", "_law_low", "_law_high", "_law_divisor", "_law_version_here", "_law_some", "_law_k", "_law_multiples", "_law_one", "_law_stronger", "_law_told"] (t__law_short_right T)
theorem ok__law_short_right (T : All K mg) : Cal P w K mg base "_law_short_right" 6 ["_law_pot_here"] [] (sp__law_short_right T) := by
 delta sp__law_short_right; exact T._law_short_right.rcal sc__law_short_right fun cd A outer s H1 E1 =>
 (z_cons (z_set sc__law_short_right.nd rfl (s_call (ok__law_pick T) (a_cons (s_var (i := 0) rfl (.inl rfl)) (a_cons (s_lst (a_cons s_int (a_cons (s_call (ok__law_digit T) (a_cons (s_var (i := 0) rfl (.inl rfl)) (a_cons s_int a_nil))) (a_cons (s_call (ok__law_version T) (a_cons (s_var (i := 0) rfl (.inl rfl)) a_nil)) a_nil)))) a_nil))))
 (z_cons (z_set sc__law_short_right.nd rfl (s_bin o_sub (s_bin o_add (s_var (i := 1) rfl (.inr (.inl rfl))) (s_call (ok__law_digit T) (a_cons (s_var (i := 0) rfl (.inl rfl)) (a_cons s_int a_nil)))) s_int))
 (z_cons (z_set sc__law_short_right.nd rfl (s_bin o_add s_int (s_call (ok__law_pick T) (a_cons (s_var (i := 0) rfl (.inl rfl)) (a_cons (s_lst (a_cons s_int (a_cons s_int (a_cons (s_call (ok__law_digit T) (a_cons (s_var (i := 0) rfl (.inl rfl)) (a_cons s_int a_nil))) (a_cons (s_call (ok__law_digit T) (a_cons (s_var (i := 0) rfl (.inl rfl)) (a_cons (s_bin o_pow s_int s_int) a_nil))) a_nil))))) a_nil)))))
 (z_cons (z_set sc__law_short_right.nd rfl (s_call (ok__law_pick T) (a_cons (s_var (i := 0) rfl (.inl rfl)) (a_cons (s_lst (a_cons s_int (a_cons (s_var (i := 1) rfl (.inr (.inl rfl))) (a_cons (s_bin o_add (s_var (i := 1) rfl (.inr (.inl rfl))) (s_call (ok__law_digit T) (a_cons (s_var (i := 0) rfl (.inl rfl)) (a_cons s_int a_nil)))) (a_cons (s_call (ok__law_version T) (a_cons (s_var (i := 0) rfl (.inl rfl)) a_nil)) a_nil))))) a_nil))))
 (z_cons (z_if (b_cmp o_lt (s_var (i := 2) rfl (.inl rfl)) s_int)
 (z_one (z_ret s_bl))
 z_nil)
 (z_cons (z_lc0 (own := [("_law_k", 6)]) (i_R1 T.n_range (a_cons (s_bin o_add (s_bin o_sub (s_var (i := 2) rfl (.inl rfl)) (s_var (i := 1) rfl (.inr (.inl rfl)))) s_int) a_nil)) sc__law_short_right.nd rfl (blk_fx (by decide +kernel)) (fun _ _ _ _ _ => (g_name sc__law_short_right.nd rfl)) (fun _ _ _ _ _ => (s_bin o_add (s_var (i := 1) (by rfl) (by walk_at "G:vis")) (s_var (i := 6) (by rfl) (by walk_at "G:vis")))))
 (z_cons (z_set sc__law_short_right.nd rfl (s_bi c_lenL T.n_len PySem.boot_len (a_cons (s_lc1 (own := [("_law_one", 8)]) (i_L (s_var (i := 5) rfl (.inl rfl))) sc__law_short_right.nd (blk_fx (by decide +kernel)) (fun _ _ _ _ _ => (g_name sc__law_short_right.nd rfl)) (fun _ _ _ _ _ => (b_cmp o_eqI (s_bin o_mod (s_var (i := 8) (by rfl) (by walk_at "G:vis")) (s_var (i := 3) (by rfl) (by walk_at "G:vis"))) s_int)) (fun _ _ _ _ _ => (s_var (i := 8) (by rfl) (by walk_at "G:vis")))) a_nil)))
 (z_cons (z_set sc__law_short_right.nd rfl (s_bi c_lenL T.n_len PySem.boot_len (a_cons (s_lc1 (own := [("_law_one", 8)]) (i_L (s_var (i := 5) rfl (.inl rfl))) sc__law_short_right.nd (blk_fx (by decide +kernel)) (fun _ _ _ _ _ => (g_name sc__law_short_right.nd rfl)) (fun _ _ _ _ _ => (b_cmpr o_gtT (s_call (ok__law_key T) (a_cons (s_var (i := 8) (by rfl) (by walk_at "G:vis")) a_nil)) (s_call (ok__law_key T) (a_cons (s_var (i := 4) (by rfl) (by walk_at "G:vis")) a_nil)))) (fun _ _ _ _ _ => (s_var (i := 8) (by rfl) (by walk_at "G:vis")))) a_nil)))
 (z_cons (z_set sc__law_short_right.nd rfl (s_lst (a_cons (s_call (ok_count_multiples T) (a_cons (s_var (i := 1) rfl (.inr (.inl rfl))) (a_cons (s_var (i := 2) rfl (.inl rfl)) (a_cons (s_var (i := 3) rfl (.inr (.inl rfl))) a_nil)))) (a_cons (s_call (ok_count_stronger T) (a_cons (s_var (i := 4) rfl (.inr (.inl rfl))) (a_cons (s_var (i := 1) rfl (.inr (.inl rfl))) (a_cons (s_var (i := 2) rfl (.inl rfl)) a_nil)))) a_nil))))
 (z_one (z_ret (s_cmp o_eqS (s_repr T.n_repr (a_cons (s_var (i := 10) rfl (.inl rfl)) a_nil)) (s_repr T.n_repr (a_cons (s_lst (a_cons (s_var (i := 7) rfl (.inl rfl)) (a_cons (s_var (i := 9) rfl (.inl rfl)) a_nil))) a_nil))))))))))))))
def t__law_wide_right (T : All K mg) : RS :=
 zCons (zSet 1 (rB (cSorted K) (aCons (rLc (iR1 (aCons (rC (.int 3)) aNil)) (gName 2) tY (rCall sp__law_version [] (aCons (rVar 0) aNil)) [2]) aNil)))
 (zCons (zAsg (rVar 1) (gTup K 3 (gCons (gName 3) (gCons (gName 4) (gCons (gName 5) gNil)))))
 (zCons (zPar 6 7 (aCons (rBin oAdd (rC (.int 1)) (rCall sp__law_pick [] (aCons (rVar 0) (aCons (rLst (aCons (rC (.int 1)) (aCons (rCall sp__law_digit [] (aCons (rVar 0) (aCons (rC (.int 99)) aNil))) (aCons (rCall sp__law_digit [] (aCons (rVar 0) (aCons (rBin oPow (rC (.int 10)) (rC (.int 40))) aNil))) aNil)))) aNil)))) (aCons (rCall sp__law_version [] (aCons (rVar 0) aNil)) aNil)))
 (zCons (zSet 8 (rBin oSub (rBin oDiv (rVar 5) (rVar 6)) (rBin oDiv (rBin oSub (rVar 3) (rC (.int 1))) (rVar 6))))
 (zCons (zSet 9 (rBin oAdd (rCall (sp_count_multiples T) [] (aCons (rVar 3) (aCons (rVar 4) (aCons (rVar 6) aNil)))) (rCall (sp_count_multiples T) [] (aCons (rBin oAdd (rVar 4) (rC (.int 1))) (aCons (rVar 5) (aCons (rVar 6) aNil))))))
 (zCons (zIf (tCmp oNeS (rB (cRepr K) (aCons (rLst (aCons (rCall (sp_count_multiples T) [] (aCons (rVar 3) (aCons (rVar 5) (aCons (rVar 6) aNil)))) (aCons (rVar 9) aNil))) aNil)) (rB (cRepr K) (aCons (rLst (aCons (rVar 8) (aCons (rVar 8) aNil))) aNil)))
 (zRet (rC (.bl false)))
 (zNil))
 (zCons (zSet 10 (rBin oAdd (rCall (sp_count_stronger T) [] (aCons (rVar 7) (aCons (rVar 3) (aCons (rVar 4) aNil)))) (rCall (sp_count_stronger T) [] (aCons (rVar 7) (aCons (rBin oAdd (rVar 4) (rC (.int 1))) (aCons (rVar 5) aNil))))))
 (zRet (rBin oEqS (rB (cRepr K) (aCons (rCall (sp_count_stronger T) [] (aCons (rVar 7) (aCons (rVar 3) (aCons (rVar 5) aNil)))) aNil)) (rB (cRepr K) (aCons (rVar 10) aNil))))))))))
@[irreducible] def sp__law_wide_right (T : All K mg) : Sp := rFn 1 ["_law_pot_here", "_law_cuts", "_law_k", "_law_low", "_law_middle", "_law_high", "_law_divisor", "_law_version_here", "_law_whole", "_law_parts", "_law_told"] (t__law_wide_right T)
theorem ok__law_wide_right (T : All K mg) : Cal P w K mg base "_law_wide_right" 6 ["_law_pot_here"] [] (sp__law_wide_right T) := by
 delta sp__law_wide_right; exact T._law_wide_right.rcal sc__law_wide_right fun cd A outer s H1 E1 =>
 (z_cons (z_set sc__law_wide_right.nd rfl (s_bi c_sorted T.n_sorted PyProof.Rows.boot_sorted (a_cons (s_lc0 (own := [("_law_k", 2)]) (i_R1 T.n_range (a_cons s_int a_nil)) sc__law_wide_right.nd (blk_fx (by decide +kernel)) (fun _ _ _ _ _ => (g_name sc__law_wide_right.nd rfl)) (fun _ _ _ _ _ => (s_call (ok__law_version T) (a_cons (s_var (i := 0) (by rfl) (by walk_at "G:vis")) a_nil)))) a_nil)))
 (z_cons (z_asg (s_var (i := 1) rfl (.inl rfl)) (g_tup (gs_cons (g_name sc__law_wide_right.nd rfl) (gs_cons (g_name sc__law_wide_right.nd rfl) (gs_cons (g_name sc__law_wide_right.nd rfl) gs_nil)))))
 (z_cons (z_par (i := 6) (l := 7) sc__law_wide_right.nd rfl rfl (a_cons (s_bin o_add s_int (s_call (ok__law_pick T) (a_cons (s_var (i := 0) rfl (.inr (.inl rfl))) (a_cons (s_lst (a_cons s_int (a_cons (s_call (ok__law_digit T) (a_cons (s_var (i := 0) rfl (.inr (.inl rfl))) (a_cons s_int a_nil))) (a_cons (s_call (ok__law_digit T) (a_cons (s_var (i := 0) rfl (.inr (.inl rfl))) (a_cons (s_bin o_pow s_int s_int) a_nil))) a_nil)))) a_nil)))) (a_cons (s_call (ok__law_version T) (a_cons (s_var (i := 0) rfl (.inr (.inl rfl))) a_nil)) a_nil)))
 (z_cons (z_set sc__law_wide_right.nd rfl (s_bin o_sub (s_bin o_div (s_var (i := 5) rfl (.inl rfl)) (s_var (i := 6) rfl (.inl rfl))) (s_bin o_div (s_bin o_sub (s_var (i := 3) rfl (.inl rfl)) s_int) (s_var (i := 6) rfl (.inl rfl)))))
 (z_cons (z_set sc__law_wide_right.nd rfl (s_bin o_add (s_call (ok_count_multiples T) (a_cons (s_var (i := 3) rfl (.inl rfl)) (a_cons (s_var (i := 4) rfl (.inl rfl)) (a_cons (s_var (i := 6) rfl (.inl rfl)) a_nil)))) (s_call (ok_count_multiples T) (a_cons (s_bin o_add (s_var (i := 4) rfl (.inl rfl)) s_int) (a_cons (s_var (i := 5) rfl (.inl rfl)) (a_cons (s_var (i := 6) rfl (.inl rfl)) a_nil))))))
 (z_cons (z_if (b_cmp o_neS (s_repr T.n_repr (a_cons (s_lst (a_cons (s_call (ok_count_multiples T) (a_cons (s_var (i := 3) rfl (.inl rfl)) (a_cons (s_var (i := 5) rfl (.inl rfl)) (a_cons (s_var (i := 6) rfl (.inl rfl)) a_nil)))) (a_cons (s_var (i := 9) rfl (.inl rfl)) a_nil))) a_nil)) (s_repr T.n_repr (a_cons (s_lst (a_cons (s_var (i := 8) rfl (.inl rfl)) (a_cons (s_var (i := 8) rfl (.inl rfl)) a_nil))) a_nil)))
 (z_one (z_ret s_bl))
 z_nil)
 (z_cons (z_set sc__law_wide_right.nd rfl (s_bin o_add (s_call (ok_count_stronger T) (a_cons (s_var (i := 7) rfl (.inl rfl)) (a_cons (s_var (i := 3) rfl (.inl rfl)) (a_cons (s_var (i := 4) rfl (.inl rfl)) a_nil)))) (s_call (ok_count_stronger T) (a_cons (s_var (i := 7) rfl (.inl rfl)) (a_cons (s_bin o_add (s_var (i := 4) rfl (.inl rfl)) s_int) (a_cons (s_var (i := 5) rfl (.inl rfl)) a_nil))))))
 (z_one (z_ret (s_cmp o_eqS (s_repr T.n_repr (a_cons (s_call (ok_count_stronger T) (a_cons (s_var (i := 7) rfl (.inl rfl)) (a_cons (s_var (i := 3) rfl (.inl rfl)) (a_cons (s_var (i := 5) rfl (.inl rfl)) a_nil)))) a_nil)) (s_repr T.n_repr (a_cons (s_var (i := 10) rfl (.inl rfl)) a_nil))))))))))))
def t_law (T : All K mg) : RS :=
 zCons (zFor (iR1 (aCons (rB cMax (aCons (rC (.int 1)) (aCons (rB cMin (aCons (rC (.int 6)) (aCons (rB (cLenL K) (aCons (rVar 0) aNil)) aNil))) aNil))) aNil)) (gName 1)
 (zCons (zSet 2 (rCall (sp__law_pot K) [] (aCons (rVar 0) (aCons (rVar 1) aNil))))
 (zCons (zFor (iR1 (aCons (rC (.int 5)) aNil)) (gName 3)
 (zIf (tOr (tNot (tV (rCall (sp__law_short_right T) [] (aCons (rVar 2) aNil)))) (tNot (tV (rCall (sp__law_wide_right T) [] (aCons (rVar 2) aNil)))))
 (zRet (rC (.bl false)))
 (zNil)))
 (zCons (zSet 4 (rBin oAdd (rC (.int 1)) (rCall sp__law_version [] (aCons (rVar 2) aNil))))
 (zCons (zIf (tCmp oNeS (rB (cRepr K) (aCons (rLst (aCons (rCall (sp_count_multiples T) [] (aCons (rVar 4) (aCons (rBin oSub (rVar 4) (rC (.int 1))) (aCons (rC (.int 3)) aNil)))) (aCons (rCall (sp_count_stronger T) [] (aCons (rVar 4) (aCons (rVar 4) (aCons (rBin oSub (rVar 4) (rC (.int 1))) aNil)))) aNil))) aNil)) (rC (.str "[0, 0]")))
 (zRet (rC (.bl false)))
 (zNil))
 (zCons (zIf (tCmp oNeS (rB (cRepr K) (aCons (rLst (aCons (rCall (sp_count_multiples T) [] (aCons (rVar 4) (aCons (rC (.int 0)) (aCons (rC (.int 1)) aNil)))) (aCons (rCall (sp_count_stronger T) [] (aCons (rC (.int 0)) (aCons (rC (.int 0)) (aCons (rVar 4) aNil)))) aNil))) aNil)) (rC (.str "[0, 0]")))
 (zRet (rC (.bl false)))
 (zNil))
 (zCons (zPar 5 6 (aCons (rB (cSorted K) (aCons (rLst (aCons (rCall sp__law_version [] (aCons (rVar 2) aNil)) (aCons (rVar 4) aNil))) aNil)) (aCons (rBin oAdd (rC (.int 1)) (rCall sp__law_digit [] (aCons (rVar 2) (aCons (rC (.int 99)) aNil)))) aNil)))
 (zIf (tCmp oLt (rBin (oIxL K) (rVar 5) (rC (.int 0))) (rBin (oIxL K) (rVar 5) (rC (.int 1))))
 (zCons (zSet 7 (rLst (aCons (rCall (sp_count_stronger T) [] (aCons (rCall sp__law_version [] (aCons (rVar 2) aNil)) (aCons (rBin (oIxL K) (rVar 5) (rC (.int 1))) (aCons (rBin (oIxL K) (rVar 5) (rC (.int 0))) aNil)))) (aCons (rCall (sp_count_multiples T) [] (aCons (rBin (oIxL K) (rVar 5) (rC (.int 1))) (aCons (rBin (oIxL K) (rVar 5) (rC (.int 0))) (aCons (rVar 6) aNil)))) aNil))))
 (zIf (tCmp oNeS (rB (cRepr K) (aCons (rBin oCat (rVar 7) (rLst (aCons (rCall (sp_count_stronger T) [] (aCons (rBin oAdd (rC (.int 1)) (rCall sp__law_version [] (aCons (rVar 2) aNil))) (aCons (rBin (oIxL K) (rVar 5) (rC (.int 1))) (aCons (rC (.int 0)) aNil)))) aNil))) aNil)) (rC (.str "[0, 0, 0]")))
 (zRet (rC (.bl false)))
 (zNil)))
 (zNil)))))))))
 (zRet (rC (.bl true)))
@[irreducible] def sp_law (T : All K mg) : Sp := rFn 1 ["_law_script", "_law_k", "_law_pot_here", "_law_turn", "_law_low", "_law_ends", "_law_divisor", "_law_told"] (t_law T)
theorem ok_law (T : All K mg) : FnG P w K mg base 7 T.law.f T.law.fd ["_law_script"] (sp_law T) := by
 delta sp_law; exact T.law.rfng sc_law fun cd A outer s H1 E1 =>
 (z_cons (z_for (i_R1 T.n_range (a_cons (s_bi c_max T.n_max PyProof.Rows.boot_max (a_cons s_int (a_cons (s_bi c_min T.n_min PyProof.Rows.boot_min (a_cons s_int (a_cons (s_bi c_lenL T.n_len PySem.boot_len (a_cons (s_var (i := 0) rfl (.inl rfl)) a_nil)) a_nil))) a_nil))) a_nil)) (g_name sc_law.nd rfl)
 (z_cons (z_set sc_law.nd rfl (s_call (ok__law_pot T) (a_cons (s_var (i := 0) rfl (.inl rfl)) (a_cons (s_var (i := 1) rfl (.inl rfl)) a_nil))))
 (z_cons (z_for (i_R1 T.n_range (a_cons s_int a_nil)) (g_name sc_law.nd rfl)
 (z_one (z_if (b_ww (w_or (b_not (b_val (s_call (ok__law_short_right T) (a_cons (s_var (i := 2) rfl (.inl rfl)) a_nil)))) (w_or1 (b_not (b_val (s_call (ok__law_wide_right T) (a_cons (s_var (i := 2) rfl (.inl rfl)) a_nil)))))))
 (z_one (z_ret s_bl))
 z_nil)))
 (z_cons (z_set sc_law.nd rfl (s_bin o_add s_int (s_call (ok__law_version T) (a_cons (s_var (i := 2) rfl (.inl rfl)) a_nil))))
 (z_cons (z_if (b_cmp o_neS (s_repr T.n_repr (a_cons (s_lst (a_cons (s_call (ok_count_multiples T) (a_cons (s_var (i := 4) rfl (.inl rfl)) (a_cons (s_bin o_sub (s_var (i := 4) rfl (.inl rfl)) s_int) (a_cons s_int a_nil)))) (a_cons (s_call (ok_count_stronger T) (a_cons (s_var (i := 4) rfl (.inl rfl)) (a_cons (s_var (i := 4) rfl (.inl rfl)) (a_cons (s_bin o_sub (s_var (i := 4) rfl (.inl rfl)) s_int) a_nil)))) a_nil))) a_nil)) s_str)
 (z_one (z_ret s_bl))
 z_nil)
 (z_cons (z_if (b_cmp o_neS (s_repr T.n_repr (a_cons (s_lst (a_cons (s_call (ok_count_multiples T) (a_cons (s_var (i := 4) rfl (.inl rfl)) (a_cons s_int (a_cons s_int a_nil)))) (a_cons (s_call (ok_count_stronger T) (a_cons s_int (a_cons s_int (a_cons (s_var (i := 4) rfl (.inl rfl)) a_nil)))) a_nil))) a_nil)) s_str)
 (z_one (z_ret s_bl))
 z_nil)
 (z_cons (z_par (i := 5) (l := 6) sc_law.nd rfl rfl (a_cons (s_bi c_sorted T.n_sorted PyProof.Rows.boot_sorted (a_cons (s_lst (a_cons (s_call (ok__law_version T) (a_cons (s_var (i := 2) rfl (.inl rfl)) a_nil)) (a_cons (s_var (i := 4) rfl (.inl rfl)) a_nil))) a_nil)) (a_cons (s_bin o_add s_int (s_call (ok__law_digit T) (a_cons (s_var (i := 2) rfl (.inl rfl)) (a_cons s_int a_nil)))) a_nil)))
 (z_one (z_if (b_cmp o_lt (s_ix x_lst (s_var (i := 5) rfl (.inl rfl)) s_int) (s_ix x_lst (s_var (i := 5) rfl (.inl rfl)) s_int))
 (z_cons (z_set sc_law.nd rfl (s_lst (a_cons (s_call (ok_count_stronger T) (a_cons (s_call (ok__law_version T) (a_cons (s_var (i := 2) rfl (.inl rfl)) a_nil)) (a_cons (s_ix x_lst (s_var (i := 5) rfl (.inl rfl)) s_int) (a_cons (s_ix x_lst (s_var (i := 5) rfl (.inl rfl)) s_int) a_nil)))) (a_cons (s_call (ok_count_multiples T) (a_cons (s_ix x_lst (s_var (i := 5) rfl (.inl rfl)) s_int) (a_cons (s_ix x_lst (s_var (i := 5) rfl (.inl rfl)) s_int) (a_cons (s_var (i := 6) rfl (.inl rfl)) a_nil)))) a_nil))))
 (z_one (z_if (b_cmp o_neS (s_repr T.n_repr (a_cons (s_bin o_cat (s_var (i := 7) rfl (.inl rfl)) (s_lst (a_cons (s_call (ok_count_stronger T) (a_cons (s_bin o_add s_int (s_call (ok__law_version T) (a_cons (s_var (i := 2) rfl (.inl rfl)) a_nil))) (a_cons (s_ix x_lst (s_var (i := 5) rfl (.inl rfl)) s_int) (a_cons s_int a_nil)))) a_nil))) a_nil)) s_str)
 (z_one (z_ret s_bl))
 z_nil)))
 z_nil)))))))))
 (z_one (z_ret s_bl)))
end

section
variable {P : Program} {w : World} {K : PySem.W.Frag} {mg : Str → Option Value} {base : Heap}
theorem is_int_ok (T : All K mg) {v : V} {H : Hp} {Q : VK} {E : XK} {C : String} (ht : Ty H v C) (q : Q (.bl (isInt v)) H) : sp_is_int T [v] H Q E := by
  unfold sp_is_int
  refine ⟨rfl, ?_⟩
  walk_at "vc"
  refine ⟨_, _, ht, rfl, .inl rfl, ?_⟩
  walk_at "vc"
  have e := ht.int_is
  refine ⟨fun h => ?_, fun h => ?_⟩
  · walk_at "vc"
    refine ⟨_, _, ht, rfl, .inr (.inl rfl), ?_⟩
    rw [h, Bool.true_and] at e
    exact fg.i (by rw [e]; exact q)
  · rw [h, Bool.false_and] at e
    exact fg.i (by rw [e]; exact q)
theorem is_version_ok (T : All K mg) {v : V} {H : Hp} {Q : VK} {E : XK} {C : String} (ht : Ty H v C) (q : Q (.bl (numAt 0 v)) H) : sp_is_version T [v] H Q E := by
  unfold sp_is_version
  refine ⟨rfl, ?_⟩
  walk_at "vc"
  refine is_int_ok T ht ?_
  walk_at "vc"
  refine ⟨fun h => ?_, fun h => ?_⟩
  · cases v <;> first | cases h | skip
    walk_at "vc"
    exact fg.i q
  · refine fg.i ?_
    cases v <;> first | exact q | cases h
theorem want_version_ok (T : All K mg) {v : V} {H : Hp} {Q : VK} {E : XK} {C : String} (ht : Ty H v C) (q : numAt 0 v = true → Q .non H) (qe : numAt 0 v = false → E (.ref T.InvalidVersion) none H) : sp_want_version T [v] H Q E := by
  unfold sp_want_version
  refine ⟨rfl, ?_⟩
  walk_at "vc"
  refine is_version_ok T ht ?_
  walk_at "vc"
  refine ⟨fun h => ⟨by decide, qe (by simpa using h)⟩, fun h => fg.i (q (by simpa using h))⟩
theorem want_version_int (T : All K mg) {n : Int} (h : 0 ≤ n) {H : Hp} {Q : VK} {E : XK} (q : Q .non H) : sp_want_version T [.int n] H Q E :=
  want_version_ok T (.int n) (fun _ => q) fun z => (numAt_bad h z).elim
theorem want_number_ok (T : All K mg) {v : V} {l : Int} (hl : l = 0 ∨ l = 1) {H : Hp} {Q : VK} {E : XK} {C : String} (ht : Ty H v C) (q : numAt l v = true → Q .non H) (qe : numAt l v = false → E (.ref T.InvalidNumber) none H) : sp_want_number T [v, .int l] H Q E := by
  have er : ∀ {Q : VK}, numAt l v = false → (zRaise T.InvalidNumber (aCons (rJoin [rC (.str "an integer that is at least "), rFmtI (rVar 1), rC (.str " is required")]) aNil)) { nx := fun _ H' => fg (Q .non) H', rt := fun v H' => fg (Q v) H' } (fun c d _ H' => E c d H') [some v, some (.int l)] H := fun h => by
    walk_at "vc"
    refine ⟨_, rfl, by decide, ?_⟩
    walk_at "vc"
    refine ⟨by rcases hl with rfl | rfl <;> decide, ?_⟩
    walk_at "vc"
    refine ⟨_, rfl, by rcases hl with rfl | rfl <;> decide +kernel, ?_⟩
    walk_at "vc"
    refine ⟨_, rfl, by rcases hl with rfl | rfl <;> decide +kernel, ?_⟩
    exact ⟨Nat.le_of_ble_eq_true rfl, qe h⟩
  unfold sp_want_number
  refine ⟨rfl, ?_⟩
  walk_at "vc"
  refine is_int_ok T ht ?_
  walk_at "vc"
  refine ⟨fun h => ?_, fun h => ?_⟩
  · refine ⟨fun _ => er ?_, fun h => nomatch h⟩
    cases v <;> first | rfl | cases h
  · obtain ⟨n, rfl⟩ : ∃ i, v = .int i := by cases v <;> first | exact ⟨_, rfl⟩ | cases h
    walk_at "vc"
    refine ⟨fun h => er ?_, fun h => fg.i (q ?_)⟩
    · simpa [numAt] using h
    · simpa [numAt] using h
theorem want_number_int (T : All K mg) {n l : Int} (hl : l = 0 ∨ l = 1) (h : l ≤ n) {H : Hp} {Q : VK} {E : XK} (q : Q .non H) : sp_want_number T [.int n, .int l] H Q E :=
  want_number_ok T hl (.int n) (fun _ => q) fun z => by simp [numAt] at z; omega
theorem lowest_bit_ok (T : All K mg) {n : Int} {H : Hp} {Q : VK} {E : XK} (q : Q (.int (lowb n)) H) : sp_lowest_bit T [.int n] H Q E := by
  unfold sp_lowest_bit
  refine ⟨rfl, ?_⟩
  walk_at "vc"
  exact fg.i q
theorem count_multiples_ok (T : All K mg) {l h m : Int} (l0 : 0 ≤ l) (h0 : 0 ≤ h) (m0 : 1 ≤ m) (hm : m < 1000000000000000000000000000000000000000000000000000000000000000000) {H : Hp} {Q : VK} {E : XK} (q : Q (.int (cntM l h m)) H) : sp_count_multiples T [.int l, .int h, .int m] H Q E := by
  unfold sp_count_multiples
  refine ⟨rfl, ?_⟩
  walk_at "vc"
  refine want_version_int T l0 ?_
  walk_at "vc"
  refine want_version_int T h0 ?_
  walk_at "vc"
  refine want_number_int T (.inr rfl) m0 ?_
  walk_at "vc"
  unfold cntM at q
  refine ⟨fun h => ?_, fun h => ?_⟩
  · walk_at "vc"
    refine ⟨by walk_at "G:fdiv", ?_⟩
    walk_at "vc"
    refine ⟨by walk_at "G:fdiv", fg.i ?_⟩
    rw [if_pos h] at q
    exact q
  · rw [if_neg (by rw [h]; decide)] at q
    exact fg.i q
theorem count_stronger_ok (T : All K mg) {v l h : Int} (v0 : 0 ≤ v) (l0 : 0 ≤ l) (h0 : 0 ≤ h) (vb : v < 1000000000000000000000000000000000000000000000000000000000000000) {H : Hp} {Q : VK} {E : XK} (q : Q (.int (cntS v l h)) H) : sp_count_stronger T [.int v, .int l, .int h] H Q E := by
  unfold sp_count_stronger
  refine ⟨rfl, ?_⟩
  walk_at "vc"
  refine want_version_int T v0 ?_
  walk_at "vc"
  refine want_version_int T l0 ?_
  walk_at "vc"
  refine want_version_int T h0 ?_
  walk_at "vc"
  refine ⟨fun hz => fg.i ?_, fun hz => ?_⟩
  · have : v = 0 := of_decide_eq_true hz
    subst this
    exact q
  have hz : v ≠ 0 := of_decide_eq_false hz
  unfold cntS at q
  rw [if_neg hz] at q
  have b1 := lowb_pos (v := v) (by omega)
  have b2 := lowb_le (n := v) (by omega)
  walk_at "vc"
  refine lowest_bit_ok T ?_
  walk_at "vc"
  have u0 : 0 ≤ (if v + 1 > l then v + 1 else l) := by split <;> omega
  refine count_multiples_ok T u0 h0 b1 (by omega) ?_
  walk_at "vc"
  refine ⟨mulW ⟨by decide, by decide⟩ ⟨by omega, by omega⟩, ?_⟩
  refine count_multiples_ok T u0 h0 (by omega) (by omega) ?_
  walk_at "vc"
  refine ⟨mulW ⟨by decide, by decide⟩ ⟨by omega, by omega⟩, ?_⟩
  refine count_multiples_ok T l0 h0 (by omega) (by omega) ?_
  exact fg.i q
theorem law_power_v {v : Int} (v0 : 0 ≤ v) : (if decide (v > 0) = true then lowb v else 0) = if v = 0 then 0 else lowb v := by
  by_cases z : v = 0
  · subst z; rfl
  · rw [if_pos (decide_eq_true (by omega)), if_neg z]
theorem law_key_ok (T : All K mg) {v : Int} (v0 : 0 ≤ v) (v1 : v < 1000000000000000000000000000000000000000000000000000000000000000) {H : Hp} {Q : VK} {E : XK} (q : ∀ p, H p = none → Q (.ref p) (upd H p (.tup [.bl (decide (v = 0)), .int (if v = 0 then 0 else lowb v), .int v]))) : sp__law_key T [.int v] H Q E := by
  unfold sp__law_key
  refine ⟨rfl, ?_⟩
  walk_at "vc"
  refine ⟨v, rfl, v1, ?_⟩
  rw [law_power_v v0]
  exact ⟨Nat.le_of_ble_eq_true rfl, fun p np => fg.i (q p np)⟩
theorem key_gt {x v : Int} (x0 : 0 ≤ x) (v0 : 0 ≤ v) : lexR (fun i j => decide (j < i)) [.bl (decide (x = 0)), .int (if x = 0 then 0 else lowb x), .int x] [.bl (decide (v = 0)), .int (if v = 0 then 0 else lowb v), .int v] = precB x v := by
  unfold precB
  by_cases zx : x = 0 <;> by_cases zv : v = 0
  · subst zx; subst zv; rfl
  · subst zx
    simp [lexR, num, zv, b2i]
    omega
  · subst zv
    simp [lexR, num, zx, b2i]
  · simp [lexR, num, zx, zv]
    split
    · by_cases e : x = v
      · subst e; simp
      · by_cases h9 : v < x <;> simp [e, h9]
    · rfl
def Ver2 (v : Int) : Prop := 0 ≤ v ∧ v < 100000000000000000000000000000000000000000000000000000000000000
theorem short_ok (T : All K mg) {p : Addr} {H : Hp} (hp : H p = some (pot p)) {Q : VK} {E : XK} (q : Q (.bl true) H) : sp__law_short_right T [.ref p] H Q E := by
  unfold sp__law_short_right
  refine ⟨rfl, ?_⟩
  walk_at "vc"
  refine ⟨_, _, rfl, hp, by walk_at "G:dig", fun d0 g0 l0 => ?_⟩
  walk_at "vc"
  refine ⟨_, rfl, hp, fun v0 hv0 => ?_⟩
  walk_at "vc"
  refine ⟨Nat.le_of_ble_eq_true rfl, fun t1 n1 => ?_⟩
  have hp1 := hp_ne (o := .lst [.int 0, .int d0, .int v0]) n1 hp
  refine ⟨_, _, _, rfl, hp1, upd_same, by simp, by simp, fun v m => ?_⟩
  obtain ⟨low, rfl, hlow⟩ : ∃ n : Int, v = .int n ∧ VerOk n := by
    simp only [List.mem_cons, List.not_mem_nil, or_false] at m
    rcases m with rfl | rfl | rfl <;> first | exact ⟨_, rfl, hv0⟩ | exact ⟨_, rfl, by omega, by omega⟩
  clear m hv0
  walk_at "vc"
  refine ⟨_, _, rfl, hp1, by walk_at "G:dig", fun d1 g1 l1 => ?_⟩
  walk_at "vc"
  refine ⟨_, _, rfl, hp1, by walk_at "G:dig", fun d2 g2 l2 => ?_⟩
  walk_at "vc"
  refine ⟨by walk_at "G:pow", _, _, rfl, hp1, by walk_at "G:dig", fun d3 g3 l3 => ?_⟩
  have e30 : (10 : Int) ^ (30 : Int).toNat = 1000000000000000000000000000000 := by decide +kernel
  have l3 : d3 < 10 ^ (30 : Int).toNat := l3
  rw [e30] at l3
  refine ⟨Nat.le_of_ble_eq_true rfl, fun t2 n2 => ?_⟩
  have hp2 := hp_ne (o := .lst [.int 0, .int 1, .int d2, .int d3]) n2 hp1
  refine ⟨_, _, _, rfl, hp2, upd_same, by simp, by simp, fun v m => ?_⟩
  obtain ⟨dv, rfl, hdv⟩ : ∃ n : Int, v = .int n ∧ (0 ≤ n ∧ n < 1000000000000000000000000000000) := by
    simp only [List.mem_cons, List.not_mem_nil, or_false] at m
    rcases m with rfl | rfl | rfl | rfl <;> exact ⟨_, rfl, by omega, by omega⟩
  clear m
  walk_at "vc"
  refine ⟨_, _, rfl, hp2, by walk_at "G:dig", fun d4 g4 l4 => ?_⟩
  walk_at "vc"
  refine ⟨_, rfl, hp2, fun v1 hv1 => ?_⟩
  walk_at "vc"
  refine ⟨Nat.le_of_ble_eq_true rfl, fun t3 n3 => ?_⟩
  have hp3 := hp_ne (o := .lst [.int 0, .int low, .int (low + d4), .int v1]) n3 hp2
  refine ⟨_, _, _, rfl, hp3, upd_same, by simp, by simp, fun v m => ?_⟩
  obtain ⟨ver, rfl, hver⟩ : ∃ n : Int, v = .int n ∧ Ver2 n := by
    obtain ⟨a, b⟩ := hlow
    obtain ⟨c, d⟩ := hv1
    simp only [List.mem_cons, List.not_mem_nil, or_false] at m
    rcases m with rfl | rfl | rfl | rfl <;> exact ⟨_, rfl, by omega, by omega⟩
  clear m hv1
  obtain ⟨b0, b1⟩ := hlow
  obtain ⟨c0, c1⟩ := hver
  walk_at "vc"
  have x0 : Ex H (upd (upd (upd H t1 (.lst [.int 0, .int d0, .int v0])) t2 (.lst [.int 0, .int 1, .int d2, .int d3])) t3 (.lst [.int 0, .int low, .int (low + d4), .int v1])) := by walk_at "G:ex"
  generalize (upd (upd (upd H t1 (.lst [.int 0, .int d0, .int v0])) t2 (.lst [.int 0, .int 1, .int d2, .int d3])) t3 (.lst [.int 0, .int low, .int (low + d4), .int v1])) = H3 at hp3 x0 ⊢
  have fin : ∀ H', Ex H3 H' → fg (Q (.bl true)) H' := fun H' x => ⟨H, x0.trans x, q⟩
  refine ⟨fun _ => fin _ (Ex.refl _), fun hh => ?_⟩
  have hh : 0 ≤ low + d1 - 1 := by have := of_decide_eq_false hh; omega
  walk_at "vc"
  obtain ⟨n, hn⟩ : ∃ n : Nat, low + d1 - 1 - low + 1 = n := ⟨d1.toNat, by omega⟩
  have hn2 : d1 = n := by omega
  rw [hn]
  refine ⟨by omega, ?_⟩
  refine lc_rng (fun i v => v = .int (low + i)) (by omega) (fun i d acc R hi nd k => ?_) (fun ys l hl hy nl => ?_)
  · walk_at "vc"
    exact k _ _ (Ex.refl _) rfl
  have hys := all_int (f := fun i => low + (i : Int)) hl hy
  rw [Int.toNat_natCast] at hys
  subst hys
  clear hl hy
  walk_at "vc"
  refine ⟨l, _, rfl, .of upd_same, ?_⟩
  have rlen : (((List.range n).map fun (i : Nat) => low + (i : Int)).map V.int).length < 100000 := by simp; omega
  have isv : ∀ (i : Nat) x, (((List.range n).map fun (i : Nat) => low + (i : Int)).map V.int)[i]? = some x → ∃ k : Nat, x = .int (low + k) ∧ k < n := fun i x hx => by
    rw [List.map_map] at hx
    obtain ⟨k, hk, rfl⟩ := List.mem_map.mp (List.mem_of_getElem? hx)
    exact ⟨k, rfl, List.mem_range.mp hk⟩
  have flt : ∀ f : Int → Bool, ((((List.range n).map fun (i : Nat) => low + (i : Int)).map V.int).filter fun v => f (num v)).map id = (((List.range n).map fun (i : Nat) => low + (i : Int)).filter f).map V.int := fun f => by
    rw [List.map_id, List.filter_map]
    rfl
  refine lc_fm (fun v => decide (num v % (1 + dv) = 0)) id rlen (.of upd_same) (fun i x d acc R hx nd k => ?_) (fun i x d acc H4 R hx hf nd x4 k => ?_) fun q1 nq1 => ?_
  · obtain ⟨k', rfl, _⟩ := isv i x hx
    walk_at "vc"
    exact ⟨show 0 < 1 + dv by omega, k _ (Ex.refl _)⟩
  · walk_at "vc"
    exact k _ x4
  rw [flt fun y => decide (y % (1 + dv) = 0)]
  walk_at "vc"
  refine ⟨q1, _, rfl, .of upd_same, ?_⟩
  walk_at "vc"
  refine ⟨l, _, rfl, .of (hp_ne nq1 upd_same), ?_⟩
  refine lc_fm (fun v => precB (num v) ver) id rlen (.of (hp_ne nq1 upd_same)) (fun i x d acc R hx nd k => ?_) (fun i x d acc H4 R hx hf nd x4 k => ?_) fun q2 nq2 => ?_
  · obtain ⟨k', rfl, hk'⟩ := isv i x hx
    walk_at "vc"
    refine law_key_ok T (by omega) (by omega) fun p1 np1 => ?_
    walk_at "vc"
    refine law_key_ok T c0 (by omega) fun p2 np2 => ?_
    refine ⟨p1, p2, _, _, rfl, rfl, .of (hp_ne np2 upd_same), .of upd_same, rfl, rfl, ?_⟩
    rw [key_gt (by omega) c0]
    exact k _ (by walk_at "G:ex")
  · walk_at "vc"
    exact k _ x4
  rw [flt fun y => precB y ver]
  walk_at "vc"
  refine ⟨q2, _, rfl, .of upd_same, ?_⟩
  walk_at "vc"
  refine count_multiples_ok T (m := 1 + dv) b0 hh (by omega) (by omega) ?_
  walk_at "vc"
  refine count_stronger_ok T c0 b0 hh (by omega) ?_
  refine ⟨Nat.le_of_ble_eq_true rfl, fun p3 np3 => ?_⟩
  walk_at "vc"
  have ehi : low + d1 - 1 = low + n - 1 := by omega
  have e1 : cntM low (low + n - 1) (1 + dv) = ((((List.range n).map fun (i : Nat) => low + (i : Int)).filter fun y => decide (y % (1 + dv) = 0)).length : Int) :=
    cnt_range (fun h => cntM low h (1 + dv)) (fun y => decide (y % (1 + dv) = 0)) low (cntM_empty (by omega)) (fun h hl => by
      simp only [decide_eq_true_eq]
      exact cntM_succ hl (by omega)) n
  have e2 : cntS ver low (low + n - 1) = ((((List.range n).map fun (i : Nat) => low + (i : Int)).filter fun y => precB y ver).length : Int) :=
    cnt_range (fun h => cntS ver low h) (fun y => precB y ver) low (cntS_empty (by omega)) (fun h hl => cntS_succ c0 b0 hl) n
  have l1 := List.length_filter_le (fun y => decide (y % (1 + dv) = 0)) ((List.range n).map fun (i : Nat) => low + (i : Int))
  have l2 := List.length_filter_le (fun y => precB y ver) ((List.range n).map fun (i : Nat) => low + (i : Int))
  rw [List.length_map, List.length_range] at l1 l2
  rw [ehi, e1, e2, List.length_map, List.length_map]
  generalize (((List.range n).map fun (i : Nat) => low + (i : Int)).filter fun y => decide (y % (1 + dv) = 0)).length = a1 at l1 ⊢
  generalize (((List.range n).map fun (i : Nat) => low + (i : Int)).filter fun y => precB y ver).length = a2 at l2 ⊢
  have rp : RpOk (.list [.int a1, .int a2]) := by walk_at "G:rp"
  refine ⟨_, .lst (.of upd_same) (.cons (.int _) (.cons (.int _) .nil)), rp, ?_⟩
  walk_at "vc"
  refine ⟨Nat.le_of_ble_eq_true rfl, fun p4 np4 => ?_⟩
  refine ⟨_, .lst (.of upd_same) (.cons (.int _) (.cons (.int _) .nil)), rp, ?_⟩
  walk_at "vc"
  rw [decide_eq_true rfl]
  exact fin _ (by walk_at "G:ex")

theorem wide_ok (T : All K mg) {p : Addr} {H : Hp} (hp : H p = some (pot p)) {Q : VK} {E : XK} (q : Q (.bl true) H) : sp__law_wide_right T [.ref p] H Q E := by
  unfold sp__law_wide_right
  refine ⟨rfl, ?_⟩
  walk_at "vc"
  refine ⟨by decide, ?_⟩
  refine lc_rng (fun _ v => ∃ n, v = .int n ∧ VerOk n) (by decide) (fun i d acc R hi nd k => ?_) (fun ys l hl hy nl => ?_)
  · walk_at "vc"
    exact ⟨_, rfl, hp_ne nd hp, fun v hv => k _ _ (Ex.refl _) ⟨v, rfl, hv⟩⟩
  obtain ⟨a, b, c, rfl⟩ := list3 hl
  obtain ⟨a, rfl, ha⟩ := hy 0 _ rfl
  obtain ⟨b, rfl, hb⟩ := hy 1 _ rfl
  obtain ⟨c, rfl, hc⟩ := hy 2 _ rfl
  walk_at "vc"
  refine ⟨l, [a, b, c], rfl, .of upd_same, fun ns l2 pm ps nl2 => ?_⟩
  have hl2 := pm.length_eq
  have all : ∀ x ∈ ns, VerOk x := fun x hx => by
    have := pm.mem_iff.mp hx
    simp only [List.mem_cons, List.not_mem_nil, or_false] at this
    rcases this with rfl | rfl | rfl <;> assumption
  obtain ⟨low, mid, high, rfl⟩ : ∃ a b c, ns = [a, b, c] := by
    match ns, hl2 with
    | [a, b, c], _ => exact ⟨a, b, c, rfl⟩
  obtain ⟨a0, a1⟩ := all low (by simp)
  obtain ⟨b0, b1⟩ := all mid (by simp)
  obtain ⟨c0, c1⟩ := all high (by simp)
  simp only [List.pairwise_cons, List.mem_cons, List.not_mem_nil, or_false] at ps
  have o1 : low ≤ mid := ps.1 _ (.inl rfl)
  have o2 : mid ≤ high := ps.2.1 _ rfl
  clear ps pm all
  walk_at "vc"
  refine ⟨l2, _, rfl, .inr (.of upd_same), rfl, ?_⟩
  walk_at "vc"
  refine ⟨rfl, ?_⟩
  walk_at "vc"
  have hp1 := hp_ne (o := .lst ([low, mid, high].map V.int)) nl2 (hp_ne (o := .lst [.int a, .int b, .int c]) nl hp)
  have x0 : Ex H (upd (upd H l (.lst [.int a, .int b, .int c])) l2 (.lst ([low, mid, high].map V.int))) := by walk_at "G:ex"
  generalize upd (upd H l (.lst [.int a, .int b, .int c])) l2 (.lst ([low, mid, high].map V.int)) = H3 at hp1 x0 ⊢
  refine ⟨_, _, rfl, hp1, by walk_at "G:dig", fun d2 g2 l2 => ?_⟩
  walk_at "vc"
  refine ⟨by walk_at "G:pow", _, _, rfl, hp1, by walk_at "G:dig", fun d3 g3 l3 => ?_⟩
  have e40 : (10 : Int) ^ (40 : Int).toNat = 10000000000000000000000000000000000000000 := by decide +kernel
  have l3 : d3 < 10 ^ (40 : Int).toNat := l3
  rw [e40] at l3
  refine ⟨Nat.le_of_ble_eq_true rfl, fun t2 n2 => ?_⟩
  have hp2 := hp_ne (o := .lst [.int 1, .int d2, .int d3]) n2 hp1
  refine ⟨_, _, _, rfl, hp2, upd_same, by simp, by simp, fun v m => ?_⟩
  obtain ⟨dv, rfl, hdv0, hdv1⟩ : ∃ n : Int, v = .int n ∧ (0 ≤ n ∧ n < 10000000000000000000000000000000000000000) := by
    simp only [List.mem_cons, List.not_mem_nil, or_false] at m
    rcases m with rfl | rfl | rfl <;> exact ⟨_, rfl, by omega, by omega⟩
  clear m
  walk_at "vc"
  refine ⟨_, rfl, hp2, fun ver hv => ?_⟩
  obtain ⟨v0, v1⟩ := hv
  walk_at "vc"
  refine ⟨by walk_at "G:fdiv", ?_⟩
  walk_at "vc"
  refine ⟨by walk_at "G:fdiv", ?_⟩
  walk_at "vc"
  refine count_multiples_ok T (m := 1 + dv) a0 b0 (by omega) (by omega) ?_
  walk_at "vc"
  refine count_multiples_ok T (m := 1 + dv) (by omega) c0 (by omega) (by omega) ?_
  walk_at "vc"
  refine count_multiples_ok T (m := 1 + dv) a0 c0 (by omega) (by omega) ?_
  walk_at "vc"
  refine ⟨Nat.le_of_ble_eq_true rfl, fun t3 n3 => ?_⟩
  have e1 := cntM_add (a := low) (k := mid) (h := high) (m := 1 + dv) (by omega) o2
  have e2 : high / (1 + dv) - (low - 1) / (1 + dv) = cntM low high (1 + dv) := by rw [cntM_ct (by omega)]; rfl
  have bd := cntM_b (l := low) (h := high) (m := 1 + dv) a0 c0 (by omega) (by omega) (by omega)
  rw [e1, e2]
  generalize cntM low high (1 + dv) = cc at bd ⊢
  have rp : RpOk (.list [.int cc, .int cc]) := by walk_at "G:rp"
  refine ⟨_, .lst (.of upd_same) (.cons (.int _) (.cons (.int _) .nil)), rp, ?_⟩
  walk_at "vc"
  refine ⟨Nat.le_of_ble_eq_true rfl, fun t4 n4 => ?_⟩
  refine ⟨_, .lst (.of upd_same) (.cons (.int _) (.cons (.int _) .nil)), rp, ?_⟩
  walk_at "vc"
  refine ⟨(fun z => by simp at z), fun _ => ?_⟩
  walk_at "vc"
  refine count_stronger_ok T v0 a0 b0 (by omega) ?_
  walk_at "vc"
  refine count_stronger_ok T v0 (by omega) c0 (by omega) ?_
  walk_at "vc"
  refine count_stronger_ok T v0 a0 c0 (by omega) ?_
  have e3 := cntS_add (v := ver) (a := low) (k := mid) (h := high) (by omega) o2
  have bs := cntS_b (v := ver) (l := low) (h := high) v0 a0 c0 (by omega) (by omega) (by omega)
  rw [e3]
  generalize cntS ver low high = cs at bs ⊢
  have rp2 : RpOk (.int cs) := ⟨by simp only [fits]; omega, by simp [PyData.bulk], by simp [PyData.depth]⟩
  refine ⟨_, .int _, rp2, ?_⟩
  walk_at "vc"
  refine ⟨_, .int _, rp2, ?_⟩
  walk_at "vc"
  rw [decide_eq_true rfl]
  exact ⟨H, x0.trans (by walk_at "G:ex"), q⟩
theorem law_ok (T : All K mg) {a : Addr} {ns : List Int} {H : Hp} (hs : SqL K H a (ns.map V.int)) (hl : ns.length ≤ 63) {Q : VK} {E : XK} (q : ∀ H, Q (.bl true) H) : sp_law T [.ref a] H Q E := by
  unfold sp_law
  refine ⟨rfl, ?_⟩
  walk_at "vc"
  refine ⟨a, _, rfl, hs, ?_⟩
  walk_at "vc"
  refine ⟨turns_ok (by decide), ?_⟩
  refine forB (fun i σ' H' => H' = H ∧ ∃ a1 a2 a3 a4 a5 a6 a7, σ' = [some (.ref a), a1, a2, a3, a4, a5, a6, a7]) ⟨rfl, _, _, _, _, _, _, _, rfl⟩ (fun _ _ _ _ _ => trivial) (fun i σ' H' hi P => ?_) (fun σ' H' P => ?_)
  · obtain ⟨rfl, a1, a2, a3, a4, a5, a6, a7, rfl⟩ := P
    have hi := turns_nat (by decide) hi
    walk_at "vc"
    refine ⟨_, _, _, rfl, hs, by omega, by omega, fun p np => ?_⟩
    walk_at "vc"
    refine ⟨by decide, ?_⟩
    refine forB (fun i σ' H2 => H2 = upd H' p (pot p) ∧ ∃ a1 a3, σ' = [some (.ref a), a1, some (.ref p), a3, a4, a5, a6, a7]) ⟨rfl, _, _, rfl⟩ (fun _ _ _ _ _ => trivial) (fun i σ' H2 hi P => ?_) (fun σ' H2 P => ?_)
    · obtain ⟨rfl, b1, b3, rfl⟩ := P
      walk_at "vc"
      refine short_ok T upd_same ?_
      walk_at "vc"
      refine ⟨(fun z => nomatch z), fun _ => ?_⟩
      walk_at "vc"
      refine wide_ok T upd_same ?_
      walk_at "vc"
      exact ⟨(fun z => nomatch z), fun _ => fg.i ⟨rfl, _, _, rfl⟩⟩
    · obtain ⟨rfl, b1, b3, rfl⟩ := P
      have hp : upd H' p (pot p) p = some (pot p) := upd_same
      have x0 : Ex H' (upd H' p (pot p)) := Ex.put np
      generalize upd H' p (pot p) = H0 at hp x0 ⊢
      have fin : ∀ H2 a1 a2 a3 a4 a5 a6 a7, Ex H0 H2 → fg (fun H3 => H3 = H' ∧ ∃ b1 b2 b3 b4 b5 b6 b7, ([some (.ref a), a1, a2, a3, a4, a5, a6, a7] : St) = [some (.ref a), b1, b2, b3, b4, b5, b6, b7]) H2 := fun H2 a1 a2 a3 a4 a5 a6 a7 x => ⟨H', x0.trans x, rfl, _, _, _, _, _, _, _, rfl⟩
      have r2 : RpOk (.list [.int 0, .int 0]) := by walk_at "G:rp"
      have r3 : RpOk (.list [.int 0, .int 0, .int 0]) := by walk_at "G:rp"
      have s2 : PyData.shown (.list [.int 0, .int 0]) = "[0, 0]" := by decide +kernel
      have s3 : PyData.shown (.list [.int 0, .int 0, .int 0]) = "[0, 0, 0]" := by decide +kernel
      walk_at "vc"
      refine ⟨_, rfl, hp, fun v hv => ?_⟩
      obtain ⟨v0, v1⟩ := hv
      walk_at "vc"
      refine count_multiples_ok T (by omega) (by omega) (by omega) (by omega) ?_
      walk_at "vc"
      refine count_stronger_ok T (by omega) (by omega) (by omega) (by omega) ?_
      rw [cntM_empty (by omega), cntS_empty (by omega)]
      refine ⟨Nat.le_of_ble_eq_true rfl, fun t1 n1 => ?_⟩
      refine ⟨_, .lst (.of upd_same) (.cons (.int _) (.cons (.int _) .nil)), r2, ?_⟩
      rw [s2]
      walk_at "vc"
      refine ⟨(fun z => by simp at z), fun _ => ?_⟩
      walk_at "vc"
      refine count_multiples_ok T (by omega) (by omega) (by omega) (by omega) ?_
      walk_at "vc"
      refine count_stronger_ok T (by omega) (by omega) (by omega) (by omega) ?_
      rw [cntM_empty (by omega), show cntS 0 0 (1 + v) = 0 from rfl]
      refine ⟨Nat.le_of_ble_eq_true rfl, fun t2 n2 => ?_⟩
      refine ⟨_, .lst (.of upd_same) (.cons (.int _) (.cons (.int _) .nil)), r2, ?_⟩
      rw [s2]
      walk_at "vc"
      refine ⟨(fun z => by simp at z), fun _ => ?_⟩
      walk_at "vc"
      have hp2 := hp_ne (o := .lst [.int 0, .int 0]) n2 (hp_ne (o := .lst [.int 0, .int 0]) n1 hp)
      have x2 : Ex H0 (upd (upd H0 t1 (.lst [.int 0, .int 0])) t2 (.lst [.int 0, .int 0])) := by walk_at "G:ex"
      generalize upd (upd H0 t1 (.lst [.int 0, .int 0])) t2 (.lst [.int 0, .int 0]) = H2 at hp2 x2 ⊢
      refine ⟨_, rfl, hp2, fun v2 hv2 => ?_⟩
      obtain ⟨w0, w1⟩ := hv2
      refine ⟨Nat.le_of_ble_eq_true rfl, fun t3 n3 => ?_⟩
      have hp3 := hp_ne (o := .lst [.int v2, .int (1 + v)]) n3 hp2
      refine ⟨t3, [v2, 1 + v], rfl, .of upd_same, fun ns l2 pm ps nl2 => ?_⟩
      have hl2 := pm.length_eq
      have all : ∀ x ∈ ns, 0 ≤ x ∧ x ≤ 1000000000000000000000000000000000000000000000000000000000000 := fun x hx => by
        have := pm.mem_iff.mp hx
        simp only [List.mem_cons, List.not_mem_nil, or_false] at this
        rcases this with rfl | rfl <;> omega
      obtain ⟨e1, e2, rfl⟩ : ∃ a b, ns = [a, b] := by
        match ns, hl2 with
        | [a, b], _ => exact ⟨a, b, rfl⟩
      obtain ⟨f0, f1⟩ := all e1 (by simp)
      obtain ⟨g0, g1⟩ := all e2 (by simp)
      clear ps pm all
      have hp4 := hp_ne (o := .lst ([e1, e2].map V.int)) nl2 hp3
      have x4 : Ex H0 (upd (upd H2 t3 (.lst [.int v2, .int (1 + v)])) l2 (.lst ([e1, e2].map V.int))) := x2.trans (by walk_at "G:ex")
      have hl4 : upd (upd H2 t3 (.lst [.int v2, .int (1 + v)])) l2 (.lst ([e1, e2].map V.int)) l2 = some (.lst [.int e1, .int e2]) := upd_same
      generalize upd (upd H2 t3 (.lst [.int v2, .int (1 + v)])) l2 (.lst ([e1, e2].map V.int)) = H4 at hp4 x4 hl4 ⊢
      walk_at "vc"
      refine ⟨_, _, rfl, hp4, by walk_at "G:dig", fun d0 g0' l0 => ?_⟩
      walk_at "vc"
      refine ⟨l2, _, 0, _, rfl, rfl, .of hl4, rfl, ?_⟩
      walk_at "vc"
      refine ⟨l2, _, 1, _, rfl, rfl, .of hl4, rfl, ?_⟩
      walk_at "vc"
      refine ⟨fun hlt => ?_, fun _ => fin _ _ _ _ _ _ _ _ x4⟩
      have hlt := of_decide_eq_true hlt
      walk_at "vc"
      refine ⟨_, rfl, hp4, fun v3 hv3 => ?_⟩
      obtain ⟨u0, u1⟩ := hv3
      walk_at "vc"
      refine ⟨l2, _, 1, _, rfl, rfl, .of hl4, rfl, ?_⟩
      walk_at "vc"
      refine ⟨l2, _, 0, _, rfl, rfl, .of hl4, rfl, ?_⟩
      refine count_stronger_ok T (by omega) (by omega) (by omega) (by omega) ?_
      walk_at "vc"
      refine ⟨l2, _, 1, _, rfl, rfl, .of hl4, rfl, ?_⟩
      walk_at "vc"
      refine ⟨l2, _, 0, _, rfl, rfl, .of hl4, rfl, ?_⟩
      walk_at "vc"
      refine count_multiples_ok T (by omega) (by omega) (by omega) (by omega) ?_
      rw [cntM_empty (by omega), cntS_empty (by omega)]
      refine ⟨Nat.le_of_ble_eq_true rfl, fun t5 n5 => ?_⟩
      have hp5 := hp_ne (o := .lst [.int 0, .int 0]) n5 hp4
      have hl5 := hp_ne (o := .lst [.int 0, .int 0]) n5 hl4
      walk_at "vc"
      refine ⟨_, rfl, hp5, fun v4 hv4 => ?_⟩
      obtain ⟨s0, s1⟩ := hv4
      walk_at "vc"
      refine ⟨l2, _, 1, _, rfl, rfl, .of hl5, rfl, ?_⟩
      walk_at "vc"
      refine count_stronger_ok T (by omega) (by omega) (by omega) (by omega) ?_
      rw [cntS_empty (by omega)]
      refine ⟨Nat.le_of_ble_eq_true rfl, fun t6 n6 => ?_⟩
      refine ⟨t5, t6, _, _, rfl, rfl, hp_ne n6 upd_same, upd_same, by simp, fun t7 n7 => ?_⟩
      refine ⟨_, .lst (.of upd_same) (.cons (.int _) (.cons (.int _) (.cons (.int _) .nil))), r3, ?_⟩
      rw [s3]
      walk_at "vc"
      exact ⟨(fun z => by simp at z), fun _ => fin _ _ _ _ _ _ _ _ (x4.trans (by walk_at "G:ex"))⟩
  · obtain ⟨rfl, a1, a2, a3, a4, a5, a6, a7, rfl⟩ := P
    walk_at "vc"
    exact fg.i (q _)
end

theorem fin {l : PySem.W.OpenLaw} {w : World} {K : PySem.W.Frag} {h : Heap} {mg : Str → Option Value} {fa f0 f1 f2 f3 f4 f5 f6 f7 f8 f9 f10 f11 f12 f13 f14 f15 C_InvalidVersion C_InvalidNumber : Addr} {od0 an0 od1 an1 od2 an2 od3 an3 od4 an4 od5 an5 od6 an6 od7 an7 od8 an8 od9 an9 od10 an10 od11 an11 od12 an12 od13 an13 od14 an14 od15 an15 : Option Addr} {sl0 sl1 sl2 sl3 sl4 sl5 sl6 sl7 sl8 sl9 sl10 sl11 sl12 sl13 sl14 sl15 : Array (Option Value)} {oc0 kV0 dc0 pm0 cd0 ct0 oc1 kV1 dc1 pm1 cd1 ct1 oc2 kV2 dc2 pm2 cd2 ct2 oc3 kV3 dc3 pm3 cd3 ct3 oc4 kV4 dc4 pm4 cd4 ct4 oc5 kV5 dc5 pm5 cd5 ct5 oc6 kV6 dc6 pm6 cd6 ct6 oc7 kV7 dc7 pm7 cd7 ct7 oc8 kV8 dc8 pm8 cd8 ct8 oc9 kV9 dc9 pm9 cd9 ct9 oc10 kV10 dc10 pm10 cd10 ct10 oc11 kV11 dc11 pm11 cd11 ct11 oc12 kV12 dc12 pm12 cd12 ct12 oc13 kV13 dc13 pm13 cd13 ct13 oc14 kV14 dc14 pm14 cd14 ct14 oc15 kV15 dc15 pm15 cd15 ct15 : Value} (X : K.In h) (G : h.Ns mainGlobals mg) (hfa : mg "law" = some (.ref fa))
    (a0 : PySem.W.nsIn K mainGlobals "is_int" = some (some (.ref f0)))
    (l0 : K.lookup f0 = some ⟨oc0, od0, .func (PySem.W.fnOf "is_int" "is_int" (defArgs s_is_int) (defBody s_is_int) (defScope s_is_int) .none kV0 dc0 pm0 an0 cd0 ct0), sl0⟩)
    (c0 : PySem.W.codeIn K cd0 "is_int" = true)
    (k0 : PySem.W.keepIn K (.ref f0) = true)
    (a1 : PySem.W.nsIn K mainGlobals "is_version" = some (some (.ref f1)))
    (l1 : K.lookup f1 = some ⟨oc1, od1, .func (PySem.W.fnOf "is_version" "is_version" (defArgs s_is_version) (defBody s_is_version) (defScope s_is_version) .none kV1 dc1 pm1 an1 cd1 ct1), sl1⟩)
    (c1 : PySem.W.codeIn K cd1 "is_version" = true)
    (k1 : PySem.W.keepIn K (.ref f1) = true)
    (a2 : PySem.W.nsIn K mainGlobals "want_version" = some (some (.ref f2)))
    (l2 : K.lookup f2 = some ⟨oc2, od2, .func (PySem.W.fnOf "want_version" "want_version" (defArgs s_want_version) (defBody s_want_version) (defScope s_want_version) .none kV2 dc2 pm2 an2 cd2 ct2), sl2⟩)
    (c2 : PySem.W.codeIn K cd2 "want_version" = true)
    (k2 : PySem.W.keepIn K (.ref f2) = true)
    (a3 : PySem.W.nsIn K mainGlobals "want_number" = some (some (.ref f3)))
    (l3 : K.lookup f3 = some ⟨oc3, od3, .func (PySem.W.fnOf "want_number" "want_number" (defArgs s_want_number) (defBody s_want_number) (defScope s_want_number) .none kV3 dc3 pm3 an3 cd3 ct3), sl3⟩)
    (c3 : PySem.W.codeIn K cd3 "want_number" = true)
    (k3 : PySem.W.keepIn K (.ref f3) = true)
    (a4 : PySem.W.nsIn K mainGlobals "lowest_bit" = some (some (.ref f4)))
    (l4 : K.lookup f4 = some ⟨oc4, od4, .func (PySem.W.fnOf "lowest_bit" "lowest_bit" (defArgs s_lowest_bit) (defBody s_lowest_bit) (defScope s_lowest_bit) .none kV4 dc4 pm4 an4 cd4 ct4), sl4⟩)
    (c4 : PySem.W.codeIn K cd4 "lowest_bit" = true)
    (k4 : PySem.W.keepIn K (.ref f4) = true)
    (a5 : PySem.W.nsIn K mainGlobals "count_multiples" = some (some (.ref f5)))
    (l5 : K.lookup f5 = some ⟨oc5, od5, .func (PySem.W.fnOf "count_multiples" "count_multiples" (defArgs s_count_multiples) (defBody s_count_multiples) (defScope s_count_multiples) .none kV5 dc5 pm5 an5 cd5 ct5), sl5⟩)
    (c5 : PySem.W.codeIn K cd5 "count_multiples" = true)
    (k5 : PySem.W.keepIn K (.ref f5) = true)
    (a6 : PySem.W.nsIn K mainGlobals "count_stronger" = some (some (.ref f6)))
    (l6 : K.lookup f6 = some ⟨oc6, od6, .func (PySem.W.fnOf "count_stronger" "count_stronger" (defArgs s_count_stronger) (defBody s_count_stronger) (defScope s_count_stronger) .none kV6 dc6 pm6 an6 cd6 ct6), sl6⟩)
    (c6 : PySem.W.codeIn K cd6 "count_stronger" = true)
    (k6 : PySem.W.keepIn K (.ref f6) = true)
    (a7 : PySem.W.nsIn K mainGlobals "_law_pot" = some (some (.ref f7)))
    (l7 : K.lookup f7 = some ⟨oc7, od7, .func (PySem.W.fnOf "_law_pot" "_law_pot" (defArgs s__law_pot) (defBody s__law_pot) (defScope s__law_pot) .none kV7 dc7 pm7 an7 cd7 ct7), sl7⟩)
    (c7 : PySem.W.codeIn K cd7 "_law_pot" = true)
    (k7 : PySem.W.keepIn K (.ref f7) = true)
    (a8 : PySem.W.nsIn K mainGlobals "_law_digit" = some (some (.ref f8)))
    (l8 : K.lookup f8 = some ⟨oc8, od8, .func (PySem.W.fnOf "_law_digit" "_law_digit" (defArgs s__law_digit) (defBody s__law_digit) (defScope s__law_digit) .none kV8 dc8 pm8 an8 cd8 ct8), sl8⟩)
    (c8 : PySem.W.codeIn K cd8 "_law_digit" = true)
    (k8 : PySem.W.keepIn K (.ref f8) = true)
    (a9 : PySem.W.nsIn K mainGlobals "_law_pick" = some (some (.ref f9)))
    (l9 : K.lookup f9 = some ⟨oc9, od9, .func (PySem.W.fnOf "_law_pick" "_law_pick" (defArgs s__law_pick) (defBody s__law_pick) (defScope s__law_pick) .none kV9 dc9 pm9 an9 cd9 ct9), sl9⟩)
    (c9 : PySem.W.codeIn K cd9 "_law_pick" = true)
    (k9 : PySem.W.keepIn K (.ref f9) = true)
    (a10 : PySem.W.nsIn K mainGlobals "_law_version" = some (some (.ref f10)))
    (l10 : K.lookup f10 = some ⟨oc10, od10, .func (PySem.W.fnOf "_law_version" "_law_version" (defArgs s__law_version) (defBody s__law_version) (defScope s__law_version) .none kV10 dc10 pm10 an10 cd10 ct10), sl10⟩)
    (c10 : PySem.W.codeIn K cd10 "_law_version" = true)
    (k10 : PySem.W.keepIn K (.ref f10) = true)
    (a11 : PySem.W.nsIn K mainGlobals "_law_power" = some (some (.ref f11)))
    (l11 : K.lookup f11 = some ⟨oc11, od11, .func (PySem.W.fnOf "_law_power" "_law_power" (defArgs s__law_power) (defBody s__law_power) (defScope s__law_power) .none kV11 dc11 pm11 an11 cd11 ct11), sl11⟩)
    (c11 : PySem.W.codeIn K cd11 "_law_power" = true)
    (k11 : PySem.W.keepIn K (.ref f11) = true)
    (a12 : PySem.W.nsIn K mainGlobals "_law_key" = some (some (.ref f12)))
    (l12 : K.lookup f12 = some ⟨oc12, od12, .func (PySem.W.fnOf "_law_key" "_law_key" (defArgs s__law_key) (defBody s__law_key) (defScope s__law_key) .none kV12 dc12 pm12 an12 cd12 ct12), sl12⟩)
    (c12 : PySem.W.codeIn K cd12 "_law_key" = true)
    (k12 : PySem.W.keepIn K (.ref f12) = true)
    (a13 : PySem.W.nsIn K mainGlobals "_law_short_right" = some (some (.ref f13)))
    (l13 : K.lookup f13 = some ⟨oc13, od13, .func (PySem.W.fnOf "_law_short_right" "_law_short_right" (defArgs s__law_short_right) (defBody s__law_short_right) (defScope s__law_short_right) .none kV13 dc13 pm13 an13 cd13 ct13), sl13⟩)
    (c13 : PySem.W.codeIn K cd13 "_law_short_right" = true)
    (k13 : PySem.W.keepIn K (.ref f13) = true)
    (a14 : PySem.W.nsIn K mainGlobals "_law_wide_right" = some (some (.ref f14)))
    (l14 : K.lookup f14 = some ⟨oc14, od14, .func (PySem.W.fnOf "_law_wide_right" "_law_wide_right" (defArgs s__law_wide_right) (defBody s__law_wide_right) (defScope s__law_wide_right) .none kV14 dc14 pm14 an14 cd14 ct14), sl14⟩)
    (c14 : PySem.W.codeIn K cd14 "_law_wide_right" = true)
    (k14 : PySem.W.keepIn K (.ref f14) = true)
    (a15 : PySem.W.nsIn K mainGlobals "law" = some (some (.ref f15)))
    (l15 : K.lookup f15 = some ⟨oc15, od15, .func (PySem.W.fnOf "law" "law" (defArgs s_law) (defBody s_law) (defScope s_law) .none kV15 dc15 pm15 an15 cd15 ct15), sl15⟩)
    (c15 : PySem.W.codeIn K cd15 "law" = true)
    (k15 : PySem.W.keepIn K (.ref f15) = true)
    (g_InvalidVersion : PySem.W.nsIn K mainGlobals "InvalidVersion" = some (some (.ref C_InvalidVersion)))
    (sb_InvalidVersion : PySem.W.subIn K (.ref C_InvalidVersion) (.type "BaseException") = some true)
    (ty_InvalidVersion : PySem.W.typeIn K (.ref C_InvalidVersion) = some (.type "type"))
    (dd_InvalidVersion : PySem.W.hasDictIn K C_InvalidVersion = true)
    (xc_InvalidVersion : PySem.W.excIn K C_InvalidVersion [.type "ValueError", .type "Exception", .type "BaseException", .type "object"] "ValueError.__new__" = true)
    (kp_InvalidVersion : PySem.W.keepIn K (.ref C_InvalidVersion) = true)
    (g_InvalidNumber : PySem.W.nsIn K mainGlobals "InvalidNumber" = some (some (.ref C_InvalidNumber)))
    (sb_InvalidNumber : PySem.W.subIn K (.ref C_InvalidNumber) (.type "BaseException") = some true)
    (ty_InvalidNumber : PySem.W.typeIn K (.ref C_InvalidNumber) = some (.type "type"))
    (dd_InvalidNumber : PySem.W.hasDictIn K C_InvalidNumber = true)
    (xc_InvalidNumber : PySem.W.excIn K C_InvalidNumber [.type "ValueError", .type "Exception", .type "BaseException", .type "object"] "ValueError.__new__" = true)
    (kp_InvalidNumber : PySem.W.keepIn K (.ref C_InvalidNumber) = true)
    (z_ValueError : PySem.W.nsIn K mainGlobals "ValueError" = some none)
    (z_abs : PySem.W.nsIn K mainGlobals "abs" = some none)
    (z_bool : PySem.W.nsIn K mainGlobals "bool" = some none)
    (z_divmod : PySem.W.nsIn K mainGlobals "divmod" = some none)
    (z_int : PySem.W.nsIn K mainGlobals "int" = some none)
    (z_isinstance : PySem.W.nsIn K mainGlobals "isinstance" = some none)
    (z_len : PySem.W.nsIn K mainGlobals "len" = some none)
    (z_max : PySem.W.nsIn K mainGlobals "max" = some none)
    (z_min : PySem.W.nsIn K mainGlobals "min" = some none)
    (z_range : PySem.W.nsIn K mainGlobals "range" = some none)
    (z_repr : PySem.W.nsIn K mainGlobals "repr" = some none)
    (z_sorted : PySem.W.nsIn K mainGlobals "sorted" = some none)
    : ∃ fd : FuncData, (∀ (s : Shared) (u : Value), BindsTo s fd ⟨[u], []⟩ [("_law_script", u)]) ∧ ∀ base : Heap, FnG l.prog w K mg base 7 fa fd ["_law_script"] (sp_end K) :=
  let T : All K mg := {
    is_int := def_mk ["value"] X G a0 l0 c0 k0 fun us hl => match us, hl with | [_], _ => rfl,
    is_version := def_mk ["value"] X G a1 l1 c1 k1 fun us hl => match us, hl with | [_], _ => rfl,
    want_version := def_mk ["value"] X G a2 l2 c2 k2 fun us hl => match us, hl with | [_], _ => rfl,
    want_number := def_mk ["value", "least"] X G a3 l3 c3 k3 fun us hl => match us, hl with | [_, _], _ => rfl,
    lowest_bit := def_mk ["version"] X G a4 l4 c4 k4 fun us hl => match us, hl with | [_], _ => rfl,
    count_multiples := def_mk ["low", "high", "divisor"] X G a5 l5 c5 k5 fun us hl => match us, hl with | [_, _, _], _ => rfl,
    count_stronger := def_mk ["version", "low", "high"] X G a6 l6 c6 k6 fun us hl => match us, hl with | [_, _, _], _ => rfl,
    _law_pot := def_mk ["_law_script", "_law_k"] X G a7 l7 c7 k7 fun us hl => match us, hl with | [_, _], _ => rfl,
    _law_digit := def_mk ["_law_pot_here", "_law_many"] X G a8 l8 c8 k8 fun us hl => match us, hl with | [_, _], _ => rfl,
    _law_pick := def_mk ["_law_pot_here", "_law_some"] X G a9 l9 c9 k9 fun us hl => match us, hl with | [_, _], _ => rfl,
    _law_version := def_mk ["_law_pot_here"] X G a10 l10 c10 k10 fun us hl => match us, hl with | [_], _ => rfl,
    _law_power := def_mk ["_law_version_here"] X G a11 l11 c11 k11 fun us hl => match us, hl with | [_], _ => rfl,
    _law_key := def_mk ["_law_version_here"] X G a12 l12 c12 k12 fun us hl => match us, hl with | [_], _ => rfl,
    _law_short_right := def_mk ["_law_pot_here"] X G a13 l13 c13 k13 fun us hl => match us, hl with | [_], _ => rfl,
    _law_wide_right := def_mk ["_law_pot_here"] X G a14 l14 c14 k14 fun us hl => match us, hl with | [_], _ => rfl,
    law := def_mk ["_law_script"] X G a15 l15 c15 k15 fun us hl => match us, hl with | [_], _ => rfl,
    InvalidVersion := C_InvalidVersion,
    InvalidVersion_g := PySem.W.mg_of X G g_InvalidVersion,
    InvalidVersion_e := ⟨PySem.W.mg_of X G g_InvalidVersion, xc_InvalidVersion, kp_InvalidVersion, sb_InvalidVersion, ty_InvalidVersion, dd_InvalidVersion⟩,
    InvalidNumber := C_InvalidNumber,
    InvalidNumber_g := PySem.W.mg_of X G g_InvalidNumber,
    InvalidNumber_e := ⟨PySem.W.mg_of X G g_InvalidNumber, xc_InvalidNumber, kp_InvalidNumber, sb_InvalidNumber, ty_InvalidNumber, dd_InvalidNumber⟩,
    n_ValueError := PySem.W.mg_none_of X G z_ValueError,
    n_abs := PySem.W.mg_none_of X G z_abs,
    n_bool := PySem.W.mg_none_of X G z_bool,
    n_divmod := PySem.W.mg_none_of X G z_divmod,
    n_int := PySem.W.mg_none_of X G z_int,
    n_isinstance := PySem.W.mg_none_of X G z_isinstance,
    n_len := PySem.W.mg_none_of X G z_len,
    n_max := PySem.W.mg_none_of X G z_max,
    n_min := PySem.W.mg_none_of X G z_min,
    n_range := PySem.W.mg_none_of X G z_range,
    n_repr := PySem.W.mg_none_of X G z_repr,
    n_sorted := PySem.W.mg_none_of X G z_sorted }
  law_end T.law hfa (fun us hl => match us, hl with | [_], _ => rfl) fun base => (ok_law T).atEnd fun hs hl _ _ q => law_ok T hs hl q
end L2.G
open PySem PySem.W PyProof.Rows
set_option maxRecDepth 100000 in
set_option maxHeartbeats 0 in
theorem PySem.Challenge.cw_sampledversions_k14_counts_by_division_holds : PySem.Challenge.rw_sampledversions_k14_counts_by_division.Holds := by
  w_on; o_law; k_head; (case hw => w_witness2)
  k_fill
  refine L2.G.walk_end (l := PySem.Challenge.rw_sampledversions_k14_counts_by_division) (n := 63) (k := 7) (x := "_law_script") (sp := fun w => L2.G.sp_end _) rfl (by decide) rfl ⟨rfl, by decide, by decide⟩ (fun w h Y => PySem.W.kIn_of Y) ?F (fun w H a ns hl hb hO hS => ⟨a, ns, rfl, hS, hl, fun _ => rfl⟩)
  case F =>
    intro w mg fa h KX G hmg
    refine' L2.G.fin KX G hmg ?a0 ?l0 ?c0 ?k0 ?a1 ?l1 ?c1 ?k1 ?a2 ?l2 ?c2 ?k2 ?a3 ?l3 ?c3 ?k3 ?a4 ?l4 ?c4 ?k4 ?a5 ?l5 ?c5 ?k5 ?a6 ?l6 ?c6 ?k6 ?a7 ?l7 ?c7 ?k7 ?a8 ?l8 ?c8 ?k8 ?a9 ?l9 ?c9 ?k9 ?a10 ?l10 ?c10 ?k10 ?a11 ?l11 ?c11 ?k11 ?a12 ?l12 ?c12 ?k12 ?a13 ?l13 ?c13 ?k13 ?a14 ?l14 ?c14 ?k14 ?a15 ?l15 ?c15 ?k15 ?g_InvalidVersion ?sb_InvalidVersion ?ty_InvalidVersion ?dd_InvalidVersion ?xc_InvalidVersion ?kp_InvalidVersion ?g_InvalidNumber ?sb_InvalidNumber ?ty_InvalidNumber ?dd_InvalidNumber ?xc_InvalidNumber ?kp_InvalidNumber ?z_ValueError ?z_abs ?z_bool ?z_divmod ?z_int ?z_isinstance ?z_len ?z_max ?z_min ?z_range ?z_repr ?z_sorted
    (case a0 => k_is)
    (case l0 => k_is)
    (case c0 => k_is)
    (case k0 => k_is)
    (case a1 => k_is)
    (case l1 => k_is)
    (case c1 => k_is)
    (case k1 => k_is)
    (case a2 => k_is)
    (case l2 => k_is)
    (case c2 => k_is)
    (case k2 => k_is)
    (case a3 => k_is)
    (case l3 => k_is)
    (case c3 => k_is)
    (case k3 => k_is)
    (case a4 => k_is)
    (case l4 => k_is)
    (case c4 => k_is)
    (case k4 => k_is)
    (case a5 => k_is)
    (case l5 => k_is)
    (case c5 => k_is)
    (case k5 => k_is)
    (case a6 => k_is)
    (case l6 => k_is)
    (case c6 => k_is)
    (case k6 => k_is)
    (case a7 => k_is)
    (case l7 => k_is)
    (case c7 => k_is)
    (case k7 => k_is)
    (case a8 => k_is)
    (case l8 => k_is)
    (case c8 => k_is)
    (case k8 => k_is)
    (case a9 => k_is)
    (case l9 => k_is)
    (case c9 => k_is)
    (case k9 => k_is)
    (case a10 => k_is)
    (case l10 => k_is)
    (case c10 => k_is)
    (case k10 => k_is)
    (case a11 => k_is)
    (case l11 => k_is)
    (case c11 => k_is)
    (case k11 => k_is)
    (case a12 => k_is)
    (case l12 => k_is)
    (case c12 => k_is)
    (case k12 => k_is)
    (case a13 => k_is)
    (case l13 => k_is)
    (case c13 => k_is)
    (case k13 => k_is)
    (case a14 => k_is)
    (case l14 => k_is)
    (case c14 => k_is)
    (case k14 => k_is)
    (case a15 => k_is)
    (case l15 => k_is)
    (case c15 => k_is)
    (case k15 => k_is)
    (case g_InvalidVersion => k_is)
    (case sb_InvalidVersion => k_is)
    (case ty_InvalidVersion => k_is)
    (case dd_InvalidVersion => k_is)
    (case xc_InvalidVersion => k_exc)
    (case kp_InvalidVersion => k_is)
    (case g_InvalidNumber => k_is)
    (case sb_InvalidNumber => k_is)
    (case ty_InvalidNumber => k_is)
    (case dd_InvalidNumber => k_is)
    (case xc_InvalidNumber => k_exc)
    (case kp_InvalidNumber => k_is)
    (case z_ValueError => k_is)
    (case z_abs => k_is)
    (case z_bool => k_is)
    (case z_divmod => k_is)
    (case z_int => k_is)
    (case z_isinstance => k_is)
    (case z_len => k_is)
    (case z_max => k_is)
    (case z_min => k_is)
    (case z_range => k_is)
    (case z_repr => k_is)
    (case z_sorted => k_is)

