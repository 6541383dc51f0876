import PyProof.Rows.All
import Wide.All
import OpenK.AllK
import Wide.FinOn
import HandS.ForMost
import HandS.Exc
import HandS.TryOnly
import HandS.TryMany
import HandS.ExcOwn
import HandS.ExcInit
import HandS.ExcIs
import HandS.Small
import HandS.IsInst
import HandS.WideBits
import HandS.FStr
import HandS.WordsExc
import HandS.RaiseMore
import HandS.EndBits
import HandS.Comp
import HandS.List
import HandS.Iter
import PyProof.ReprRoads
import PyProof.ReprBulk
import HandS.Style
import PyProof.SumWalkG
import HandS.Defaults
import HandS.MakeKwOnly
import HandS.Walk
import HandS.TupLe
import HandS.SortInts
import HandS.OwnEq
import HandS.Conv
import HandS.TupAny
import HandS.SetFor
import HandS.TupMul
import HandS.Codes
import HandS.SortKw
import HandS.ExcValue
import KE.SortKeyHeap
import KE.KRevSl
import HandS.DictSub
import PyProof.InstNe
import HandS.Deep
import HandS.More
import HandS.SetKeys
import HandS.Strs
import PyProof.Rows.CountFlat
import KE.DataMinKey
import HandS.DictComp
import HandS.ListItems
import HandS.SetBool
import HandS.Zip
import PyProof.StrLawsIn
import HandS.Finally
import KE.KUnpackStar
import HandS.Text
import KE.IntTextLaws
import KE.IntTextText
import KE.KIntText
import HandS.ExcField
import KE.KExcInit
import PyProof.ExcBaseAll.LookupError
import PyProof.ExcBaseAll.RuntimeError
import PyProof.ExcBaseAll.ArithmeticError
import PyProof.ExcBaseAll.ValueError
import KE.KExcPX
import KE.KIndexOf
import PyProof.StrLawsChain
import PyProof.StrLawsTight
import PyProof.EqKinds
import KE.KExcLine
import PySem.Challenge.RW_sampledversions_k28_refused_copies_equal
set_option Elab.async false
set_option linter.all false
set_option maxRecDepth 100000
set_option maxHeartbeats 4000000
namespace L2.G
open PySem PySem.Spec PyProof.Rows
/-! A layer of our own over HandS: weakest preconditions on the expressions themselves, the heap known from below, calls with no repr at work. -/

/-! ## heaps from below -/
def Ex (H H' : Hp) : Prop := ∀ a o, H a = some o → H' a = some o
theorem Ex.refl (H : Hp) : Ex H H := fun _ _ h => h
theorem Ex.trans {H H1 H2 : Hp} (a : Ex H H1) (b : Ex H1 H2) : Ex H H2 := fun x o h => b x o (a x o h)
theorem Ex.free {H H' : Hp} (e : Ex H H') {p : Addr} (h : H' p = none) : H p = none := by
  cases q : H p with
  | none => rfl
  | some o => rw [e p o q] at h; cases h
theorem Ex.new {H H' : Hp} {p : Addr} {o : HO} (e : Ex H H') (h : H' p = none) : Ex H (upd H' p o) := fun a u ha => by
  rw [upd_ne (ne_of_none (e a u ha) h)]
  exact e a u ha
theorem Ex.set {H H' : Hp} (e : Ex H H') (p : Addr) (o : HO) : Ex (upd H p o) (upd H' p o) := fun a u ha => by
  by_cases h : a = p
  · subst h; rw [upd_same] at ha ⊢; exact ha
  · rw [upd_ne h] at ha ⊢; exact e a u ha
theorem Ex.put {H : Hp} {p : Addr} {o : HO} (h : H p = none) : Ex H (upd H p o) := Ex.new (Ex.refl H) h
theorem Ex.rd {H H' : Hp} {a : Addr} {u : HO} (e : Ex H H') (h : Rd H a u) : Rd H' a u := by
  rcases h with h | ⟨o, h⟩
  · exact Or.inl (e a _ h)
  · exact Or.inr ⟨o, e a _ h⟩
theorem Ex.sqL {K : PySem.W.Frag} {H H' : Hp} {a : Addr} {xs : List V} (e : Ex H H') (h : SqL K H a xs) : SqL K H' a xs := by
  rcases h with h | h
  · exact Or.inl (e.rd h)
  · exact Or.inr h
theorem Ex.sqT {K : PySem.W.Frag} {H H' : Hp} {a : Addr} {xs : List V} (e : Ex H H') (h : SqT K H a xs) : SqT K H' a xs := by
  rcases h with h | h
  · exact Or.inl (e.rd h)
  · exact Or.inr h

/-! ## wishes, lifted -/
def up (Q : VK) : VK := fun v H2 => ∃ H', Ex H' H2 ∧ Q v H'
def upB (Q : Bool → Hp → Prop) : Bool → Hp → Prop := fun v H2 => ∃ H', Ex H' H2 ∧ Q v H'
def upA (Q : List V → Hp → Prop) : List V → Hp → Prop := fun v H2 => ∃ H', Ex H' H2 ∧ Q v H'
def upS (Q : St → Hp → Prop) : St → Hp → Prop := fun v H2 => ∃ H', Ex H' H2 ∧ Q v H'
def upE (Q : XK) : XK := fun c d H2 => ∃ H', Ex H' H2 ∧ Q c d H'
def upD (D : Ends) : Ends := { nx := upS D.nx, rt := up D.rt, bk := upS D.bk, ct := upS D.ct }
theorem up.i {Q : VK} {v : V} {H : Hp} (q : Q v H) : up Q v H := ⟨H, Ex.refl H, q⟩
theorem upS.i {Q : St → Hp → Prop} {v : St} {H : Hp} (q : Q v H) : upS Q v H := ⟨H, Ex.refl H, q⟩
theorem upB.i {Q : Bool → Hp → Prop} {v : Bool} {H : Hp} (q : Q v H) : upB Q v H := ⟨H, Ex.refl H, q⟩
theorem upA.i {Q : List V → Hp → Prop} {v : List V} {H : Hp} (q : Q v H) : upA Q v H := ⟨H, Ex.refl H, q⟩

/-! ## weakest preconditions -/
def WE (X : Cx) (e : Expr) (σ : St) (H : Hp) (Q : VK) : Prop :=
  ∀ H1, Ex H H1 → ∀ pins s, Inv X pins σ H1 s → wpAny (model X.prog X.w) X.A (eval e X.env) (EP X pins σ (up Q)) X.xe s
def WT (X : Cx) (e : Expr) (σ : St) (H : Hp) (Q : Bool → Hp → Prop) : Prop :=
  ∀ H1, Ex H H1 → ∀ pins s, Inv X pins σ H1 s → wpAny (model X.prog X.w) X.A (isTrue e X.env (eval e X.env)) (TP X pins σ (upB Q)) X.xe s
def WW (X : Cx) (e : Expr) (σ : St) (H : Hp) (Q : Bool → Hp → Prop) : Prop :=
  ∀ H1, Ex H H1 → ∀ whole pins s, Inv X pins σ H1 s → wpAny (model X.prog X.w) X.A (isTrue e X.env whole) (TP X pins σ (upB Q)) X.xe s
def WA (X : Cx) (es : List Expr) (σ : St) (H : Hp) (Q : List V → Hp → Prop) : Prop :=
  ∀ H1, Ex H H1 → ∀ pos pins s, Inv X pins σ H1 s → wpAny (model X.prog X.w) X.A (spliced (backTo pos (starEach es X.env))) (AP X pins σ (upA Q)) X.xe s
def WS (X : Cx) (st : Stmt) (D : Ends) (σ : St) (H : Hp) : Prop :=
  ∀ H1, Ex H H1 → ∀ pins s, Inv X pins σ H1 s → wpAny (model X.prog X.w) X.A (exec st X.env) (SP X pins (upD D)) X.xe s
def WSs (X : Cx) (st : List Stmt) (D : Ends) (σ : St) (H : Hp) : Prop :=
  ∀ H1, Ex H H1 → ∀ pins s, Inv X pins σ H1 s → wpAny (model X.prog X.w) X.A (execs st X.env) (SP X pins (upD D)) X.xe s
/-- an operation on two values | a call of a value | a method's call | a subscript -/
def WO (X : Cx) (f : Value → Value → Sem Value) (x y : V) (H : Hp) (Q : VK) : Prop :=
  ∀ H1, Ex H H1 → ∀ pins s σ v u, Inv X pins σ H1 s → RelV x v → RelV y u → wpAny (model X.prog X.w) X.A (f v u) (EP X pins σ (up Q)) X.xe s
def WC (X : Cx) (f : Value) (xs : List V) (H : Hp) (Q : VK) : Prop :=
  ∀ H1, Ex H H1 → ∀ pins s σ us, Inv X pins σ H1 s → Vals xs us → wpAny (model X.prog X.w) X.A (call f us) (EP X pins σ (up Q)) X.xe s

section
variable {X : Cx} {e a b c : Expr} {es : List Expr} {st : Stmt} {sts : List Stmt} {σ : St} {H H1 H' : Hp} {Q Q1 : VK} {QB QB1 : Bool → Hp → Prop} {QA QA1 : List V → Hp → Prop} {D : Ends} {x y z v : V} {pos : Pos} {f : Value → Value → Sem Value} {fn : Value} {xs : List V}

/-- the readings that HandS's rules take -/
def tWE (X : Cx) (e : Expr) : TE := fun σ H1 Q1 => ∃ H Q, Ex H H1 ∧ WE X e σ H Q ∧ ∀ v H2, up Q v H2 → Q1 v H2
def tWT (X : Cx) (e : Expr) : TT := fun σ H1 Q1 => ∃ H Q, Ex H H1 ∧ WT X e σ H Q ∧ ∀ v H2, upB Q v H2 → Q1 v H2
def tWW (X : Cx) (e : Expr) : TT := fun σ H1 Q1 => ∃ H Q, Ex H H1 ∧ WW X e σ H Q ∧ ∀ v H2, upB Q v H2 → Q1 v H2
def tWA (X : Cx) (es : List Expr) : TA := fun σ H1 Q1 => ∃ H Q, Ex H H1 ∧ WA X es σ H Q ∧ ∀ v H2, upA Q v H2 → Q1 v H2
structure EndsLe (D D1 : Ends) : Prop where
  nx : ∀ σ H, upS D.nx σ H → D1.nx σ H
  rt : ∀ v H, up D.rt v H → D1.rt v H
  bk : ∀ σ H, upS D.bk σ H → D1.bk σ H
  ct : ∀ σ H, upS D.ct σ H → D1.ct σ H
def tWS (X : Cx) (st : Stmt) : TS := fun D1 σ H1 => ∃ H D, Ex H H1 ∧ WS X st D σ H ∧ EndsLe D D1
def tWSs (X : Cx) (st : List Stmt) : TS := fun D1 σ H1 => ∃ H D, Ex H H1 ∧ WSs X st D σ H ∧ EndsLe D D1
def rWO (X : Cx) (f : Value → Value → Sem Value) : R2 := fun x y H1 Q1 => ∃ H Q, Ex H H1 ∧ WO X f x y H Q ∧ ∀ v H2, up Q v H2 → Q1 v H2
def rWC (X : Cx) (fn : Value) : List V → Hp → VK → Prop := fun xs H1 Q1 => ∃ H Q, Ex H H1 ∧ WC X fn xs H Q ∧ ∀ v H2, up Q v H2 → Q1 v H2

theorem pe_W : PE X e (tWE X e) := ⟨fun pins s σ H1 Q1 I ⟨H, Q, x, w, k⟩ => thn (w H1 x pins s I) fun u s' ⟨v, H2, I2, r, q⟩ => ⟨v, H2, I2, r, k v H2 q⟩⟩
theorem pt_W : PT X e (tWT X e) := ⟨fun pins s σ H1 Q1 I ⟨H, Q, x, w, k⟩ => thn (w H1 x pins s I) fun u s' ⟨H2, I2, q⟩ => ⟨H2, I2, k _ H2 q⟩⟩
theorem pw_W : PW X e (tWW X e) := ⟨fun wh pins s σ H1 Q1 I ⟨H, Q, x, w, k⟩ => thn (w H1 x wh pins s I) fun u s' ⟨H2, I2, q⟩ => ⟨H2, I2, k _ H2 q⟩⟩
theorem pa_W : PA X es (tWA X es) := ⟨fun pos pins s σ H1 Q1 I ⟨H, Q, x, w, k⟩ => thn (w H1 x pos pins s I) fun u s' ⟨v, H2, I2, r, q⟩ => ⟨v, H2, I2, r, k v H2 q⟩⟩
theorem SP.le {X : Cx} {pins : List (Addr × Obj)} {D D1 : Ends} (k : EndsLe D D1) {f : Flow} {s : Shared} (q : SP X pins (upD D) f s) : SP X pins D1 f s := by
  cases f with
  | next => obtain ⟨σ', H', I, q⟩ := q; exact ⟨σ', H', I, k.nx _ _ q⟩
  | brk => obtain ⟨σ', H', I, q⟩ := q; exact ⟨σ', H', I, k.bk _ _ q⟩
  | cont => obtain ⟨σ', H', I, q⟩ := q; exact ⟨σ', H', I, k.ct _ _ q⟩
  | ret u => obtain ⟨v, σ', H', I, r, q⟩ := q; exact ⟨v, σ', H', I, r, k.rt _ _ q⟩
theorem ps_W : PS X st (tWS X st) := ⟨fun pins s σ H1 D1 I ⟨H, D, x, w, k⟩ => thn (w H1 x pins s I) fun u s' q => SP.le k q⟩
theorem pss_W : PSs X sts (tWSs X sts) := ⟨fun pins s σ H1 D1 I ⟨H, D, x, w, k⟩ => thn (w H1 x pins s I) fun u s' q => SP.le k q⟩
theorem op_W : OpR X f (rWO X f) := fun pins s σ H1 x y v u Q1 I rx ry ⟨H, Q, e, w, k⟩ => thn (w H1 e pins s σ v u I rx ry) fun u s' ⟨v, H2, I2, r, q⟩ => ⟨v, H2, I2, r, k v H2 q⟩
theorem call_W : CallR X fn (rWC X fn) := fun pins s σ H1 xs us Q1 I r ⟨H, Q, e, w, k⟩ => thn (w H1 e pins s σ us I r) fun u s' ⟨v, H2, I2, r, q⟩ => ⟨v, H2, I2, r, k v H2 q⟩

theorem WE.of {t : TE} (h : PE X e t) (q : ∀ H1, Ex H H1 → t σ H1 (up Q)) : WE X e σ H Q := fun H1 x pins s I => h.run pins s σ H1 _ I (q H1 x)
theorem WT.of {t : TT} (h : PT X e t) (q : ∀ H1, Ex H H1 → t σ H1 (upB QB)) : WT X e σ H QB := fun H1 x pins s I => h.run pins s σ H1 _ I (q H1 x)
theorem WW.of {t : TT} (h : PW X e t) (q : ∀ H1, Ex H H1 → t σ H1 (upB QB)) : WW X e σ H QB := fun H1 x wh pins s I => h.run wh pins s σ H1 _ I (q H1 x)
theorem WA.of {t : TA} (h : PA X es t) (q : ∀ H1, Ex H H1 → t σ H1 (upA QA)) : WA X es σ H QA := fun H1 x pos pins s I => h.run pos pins s σ H1 _ I (q H1 x)
theorem WS.of {t : TS} (h : PS X st t) (q : ∀ H1, Ex H H1 → t (upD D) σ H1) : WS X st D σ H := fun H1 x pins s I => h.run pins s σ H1 _ I (q H1 x)
theorem WSs.of {t : TS} (h : PSs X sts t) (q : ∀ H1, Ex H H1 → t (upD D) σ H1) : WSs X sts D σ H := fun H1 x pins s I => h.run pins s σ H1 _ I (q H1 x)
theorem WO.of {r : R2} (h : OpR X f r) (q : ∀ H1, Ex H H1 → r x y H1 (up Q)) : WO X f x y H Q := fun H1 e pins s σ v u I rx ry => h pins s σ H1 x y v u _ I rx ry (q H1 e)
theorem WC.of {r : List V → Hp → VK → Prop} (h : CallR X fn r) (q : ∀ H1, Ex H H1 → r xs H1 (up Q)) : WC X fn xs H Q := fun H1 e pins s σ us I rs => h pins s σ H1 xs us _ I rs (q H1 e)

theorem WE.t (w : WE X e σ H Q) (x : Ex H H1) (k : ∀ v H2, up Q v H2 → Q1 v H2) : tWE X e σ H1 Q1 := ⟨H, Q, x, w, k⟩
theorem WT.t (w : WT X e σ H QB) (x : Ex H H1) (k : ∀ v H2, upB QB v H2 → QB1 v H2) : tWT X e σ H1 QB1 := ⟨H, QB, x, w, k⟩
theorem WW.t (w : WW X e σ H QB) (x : Ex H H1) (k : ∀ v H2, upB QB v H2 → QB1 v H2) : tWW X e σ H1 QB1 := ⟨H, QB, x, w, k⟩
theorem WA.t (w : WA X es σ H QA) (x : Ex H H1) (k : ∀ v H2, upA QA v H2 → QA1 v H2) : tWA X es σ H1 QA1 := ⟨H, QA, x, w, k⟩
theorem WO.t (w : WO X f x y H Q) (e : Ex H H1) (k : ∀ v H2, up Q v H2 → Q1 v H2) : rWO X f x y H1 Q1 := ⟨H, Q, e, w, k⟩
theorem WC.t (w : WC X fn xs H Q) (e : Ex H H1) (k : ∀ v H2, up Q v H2 → Q1 v H2) : rWC X fn xs H1 Q1 := ⟨H, Q, e, w, k⟩

theorem up.mono {Q Q' : VK} (k : ∀ v H, Q v H → Q' v H) {v : V} {H : Hp} : up Q v H → up Q' v H := fun ⟨H', x, q⟩ => ⟨H', x, k _ _ q⟩
theorem WE.mono (w : WE X e σ H Q) (k : ∀ v H, Q v H → Q1 v H) : WE X e σ H Q1 := fun H1 x pins s I => thn (w H1 x pins s I) fun u s' ⟨v, H2, I2, r, q⟩ => ⟨v, H2, I2, r, up.mono k q⟩
theorem WE.ex (w : WE X e σ H Q) (x : Ex H H') : WE X e σ H' Q := fun H1 x1 => w H1 (x.trans x1)
theorem WSs.le {D1 : Ends} (w : WSs X sts D σ H) (k : EndsLe D (upD D1)) : WSs X sts D1 σ H := fun H1 x pins s I => thn (w H1 x pins s I) fun u s' q => SP.le k q
theorem EndsLe.i {D D1 : Ends} (nx : ∀ σ H, D.nx σ H → D1.nx σ H) (rt : ∀ σ H, D.rt σ H → D1.rt σ H) (bk : ∀ σ H, D.bk σ H → D1.bk σ H) (ct : ∀ σ H, D.ct σ H → D1.ct σ H) : EndsLe D (upD D1) :=
  ⟨fun _ _ ⟨H, x, q⟩ => ⟨H, x, nx _ _ q⟩, fun _ _ ⟨H, x, q⟩ => ⟨H, x, rt _ _ q⟩, fun _ _ ⟨H, x, q⟩ => ⟨H, x, bk _ _ q⟩, fun _ _ ⟨H, x, q⟩ => ⟨H, x, ct _ _ q⟩⟩
theorem EndsLe.rfl {D : Ends} : EndsLe D (upD D) := .i (fun _ _ q => q) (fun _ _ q => q) (fun _ _ q => q) fun _ _ q => q

/-! ## pure: a value, nothing changed -/
def EV (X : Cx) (e : Expr) (σ : St) (H : Hp) (v : V) : Prop := ∀ H1, Ex H H1 → ∀ Q : VK, Q v H1 → WE X e σ H1 Q
def ET (X : Cx) (e : Expr) (σ : St) (H : Hp) (v : Bool) : Prop := ∀ H1, Ex H H1 → ∀ Q : Bool → Hp → Prop, Q v H1 → WT X e σ H1 Q
def EA (X : Cx) (es : List Expr) (σ : St) (H : Hp) (vs : List V) : Prop := ∀ H1, Ex H H1 → ∀ Q : List V → Hp → Prop, Q vs H1 → WA X es σ H1 Q
def EO (X : Cx) (f : Value → Value → Sem Value) (x y : V) (H : Hp) (z : V) : Prop := ∀ H1, Ex H H1 → ∀ Q : VK, Q z H1 → WO X f x y H1 Q
def EC (X : Cx) (fn : Value) (xs : List V) (H : Hp) (z : V) : Prop := ∀ H1, Ex H H1 → ∀ Q : VK, Q z H1 → WC X fn xs H1 Q
/-- a new object -/
def EN (X : Cx) (e : Expr) (σ : St) (H : Hp) (o : HO) : Prop := ∀ H1, Ex H H1 → ∀ Q : VK, (∀ p, H1 p = none → Q (.ref p) (upd H1 p o)) → WE X e σ H1 Q
def CN (X : Cx) (fn : Value) (xs : List V) (H : Hp) (o : HO) : Prop := ∀ H1, Ex H H1 → ∀ Q : VK, (∀ p, H1 p = none → Q (.ref p) (upd H1 p o)) → WC X fn xs H1 Q
theorem EV.we (h : EV X e σ H v) (q : Q v H) : WE X e σ H Q := h H (Ex.refl H) Q q
theorem EO.wo (h : EO X f x y H z) (q : Q z H) : WO X f x y H Q := h H (Ex.refl H) Q q
theorem EC.wc (h : EC X fn xs H z) (q : Q z H) : WC X fn xs H Q := h H (Ex.refl H) Q q
theorem EN.we {o : HO} (h : EN X e σ H o) (q : ∀ p, H p = none → Q (.ref p) (upd H p o)) : WE X e σ H Q := h H (Ex.refl H) Q q
theorem CN.wc {o : HO} (h : CN X fn xs H o) (q : ∀ p, H p = none → Q (.ref p) (upd H p o)) : WC X fn xs H Q := h H (Ex.refl H) Q q
theorem EV.ex (h : EV X e σ H v) (x : Ex H H') : EV X e σ H' v := fun H1 x1 => h H1 (x.trans x1)
theorem ET.ex {v : Bool} (h : ET X e σ H v) (x : Ex H H') : ET X e σ H' v := fun H1 x1 => h H1 (x.trans x1)
theorem EN.ex {o : HO} (h : EN X e σ H o) (x : Ex H H') : EN X e σ H' o := fun H1 x1 => h H1 (x.trans x1)
theorem EA.ex {vs : List V} (h : EA X es σ H vs) (x : Ex H H') : EA X es σ H' vs := fun H1 x1 => h H1 (x.trans x1)
theorem EO.ex (h : EO X f x y H z) (x0 : Ex H H') : EO X f x y H' z := fun H1 x1 => h H1 (x0.trans x1)
theorem EV.is {w : V} (h : EV X e σ H v) (q : v = w) : EV X e σ H w := q ▸ h
theorem ET.is {v w : Bool} (h : ET X e σ H v) (q : v = w) : ET X e σ H w := q ▸ h
theorem EO.is {w : V} (h : EO X f x y H v) (q : v = w) : EO X f x y H w := q ▸ h
end
section
variable {X : Cx} {e a b c : Expr} {es rest : List Expr} {st : Stmt} {sts : List Stmt} {σ : St} {H H1 H' : Hp} {Q Q1 : VK} {QB QB1 : Bool → Hp → Prop} {QA QA1 : List V → Hp → Prop} {D : Ends} {x y z v w : V} {pos p pos' : Pos} {f : Value → Value → Sem Value} {fn : Value} {xs vs : List V} {k l : Bool}

/-! ## names, constants -/
theorem ev_var {i : Nat} {n : Str} (hN : X.N[i]? = some n) (hv : Vis X.env.scope n) (hs : σ[i]? = some (some v)) (hd : (n == ("__debug__" : Str)) = false := by decide) (hcd : (n == ("__classdict__" : Str)) = false := by decide) : EV X (.Name n pos) σ H v :=
  fun H1 x Q q => .of (pe_var hN hv hd hcd) fun H2 x2 => ⟨v, hs, H1, x2, q⟩
theorem ev_int {i : Int} {j} : EV X (.Constant (.int i) j pos) σ H (.int i) := fun H1 x Q q => .of pe_int fun H2 x2 => ⟨H1, x2, q⟩
theorem ev_bl {i : Bool} {j} : EV X (.Constant (.bool i) j pos) σ H (.bl i) := fun H1 x Q q => .of pe_bl fun H2 x2 => ⟨H1, x2, q⟩
theorem ev_non {j} : EV X (.Constant .none j pos) σ H .non := fun H1 x Q q => .of pe_non fun H2 x2 => ⟨H1, x2, q⟩
theorem ev_str {i : Str} {j} : EV X (.Constant (.str i) j pos) σ H (.str i) := fun H1 x Q q => .of pe_str fun H2 x2 => ⟨H1, x2, q⟩
theorem ev_glob {n : Str} {u : Value} (hm : X.mg n = some u) (r : RelV v u) (hg : Gl X n := by rfl) (hd : (n == ("__debug__" : Str)) = false := by decide) : EV X (.Name n pos) σ H v := fun H1 x Q q => .of (pe_glob hg hm r hd) fun H2 x2 => ⟨H1, x2, q⟩
theorem ev_bltn {n : Str} {u : Value} (hm : X.mg n = none) (hv : bootBuiltins n = some u) (r : RelV v u) (hg : Gl X n := by rfl) (hn : n ≠ "__name__" := by decide) (hd : (n == ("__debug__" : Str)) = false := by decide) : EV X (.Name n pos) σ H v := fun H1 x Q q => .of (pe_bltn hg hm hv r hn hd) fun H2 x2 => ⟨H1, x2, q⟩

/-! ## operators -/
theorem we_bin {op : Operator} (h : WE X a σ H fun x H1 => WE X b σ H1 fun y H2 => WO X (binaryOp op) x y H2 Q) : WE X (.BinOp a op b pos) σ H Q :=
  .of (pe_op op_W pe_W pe_W) fun H1 x => h.t x fun v H2 ⟨H3, x3, w⟩ => w.t x3 fun u H4 ⟨H5, x5, o⟩ => o.t x5 fun _ _ q => q
def UN (X : Cx) (f : Value → Sem Value) (x : V) (H : Hp) (z : V) : Prop := ∀ H1, Ex H H1 → ∀ pins s σ v, Inv X pins σ H1 s → RelV x v → ∀ Q : VK, Q z H1 → wpAny (model X.prog X.w) X.A (f v) (EP X pins σ Q) X.xe s
theorem we_un {op : UnaryOp} (h : WE X a σ H fun x H1 => ∃ z, UN X (unaryOp op) x H1 z ∧ Q z H1) : WE X (.UnaryOp op a pos) σ H Q :=
  .of (pe_un (r := fun x H1 Q1 => ∃ H z, Ex H H1 ∧ UN X (unaryOp op) x H z ∧ Q1 z H1) (fun pins s σ H1 x v Q I rx ⟨H, z, e, h, q⟩ => h H1 e pins s σ v I rx Q q) pe_W) fun H1 x => h.t x fun v H2 ⟨H3, x3, z, h3, q⟩ => ⟨H3, z, x3, h3, H3, x3, q⟩
theorem un_neg {i : Int} : UN X (unaryOp .USub) (.int i) H (.int (-i)) := fun H1 e pins s σ v I rx Q q => L2.un_neg pins s σ H1 _ v Q I rx ⟨i, rfl, q⟩
theorem eo_of {r : R2} (h : OpR X f r) (q : ∀ H1, Ex H H1 → ∀ Q : VK, Q z H1 → r x y H1 Q) : EO X f x y H z := fun H1 e Q k => .of h fun H2 e2 => q H2 (e.trans e2) _ ⟨H1, e2, k⟩
section
variable {i j : Int}
theorem eo_add : EO X (binaryOp .Add) (.int i) (.int j) H (.int (i + j)) := eo_of op_add fun _ _ _ q => ⟨i, j, rfl, rfl, q⟩
theorem eo_sub : EO X (binaryOp .Sub) (.int i) (.int j) H (.int (i - j)) := eo_of op_sub fun _ _ _ q => ⟨i, j, rfl, rfl, q⟩
theorem eo_mulX (h : CMulX i j) : EO X (binaryOp .Mult) (.int i) (.int j) H (.int (i * j)) := eo_of op_mulX fun _ _ _ q => ⟨i, j, rfl, rfl, h, q⟩
theorem eo_mod (h : 0 < j) : EO X (binaryOp .Mod) (.int i) (.int j) H (.int (i % j)) := eo_of op_mod fun _ _ _ q => ⟨i, j, rfl, rfl, h, q⟩
theorem eo_fdiv (h : CDivW i j) : EO X (binaryOp .FloorDiv) (.int i) (.int j) H (.int (i / j)) := eo_of op_fdivW fun _ _ _ q => ⟨i, j, rfl, rfl, h, q⟩
theorem eo_pow (h : CPow i j) : EO X (binaryOp .Pow) (.int i) (.int j) H (.int (i ^ j.toNat)) := eo_of op_pow fun _ _ _ q => ⟨i, j, rfl, rfl, h, q⟩
theorem eo_shl (h : CShl i j) : EO X (binaryOp .LShift) (.int i) (.int j) H (.int (i * 2 ^ j.toNat)) := eo_of op_shlW fun _ _ _ q => ⟨i, j, rfl, rfl, h, q⟩
theorem eo_and : EO X (binaryOp .BitAnd) (.int i) (.int j) H (.int (Builtin.bitAnd i j)) := eo_of op_and fun _ _ _ q => ⟨i, j, rfl, rfl, q⟩
theorem eo_lt : EO X (compareOp .Lt) (.int i) (.int j) H (.bl (decide (i < j))) := eo_of op_lt fun _ _ _ q => ⟨i, j, rfl, rfl, q⟩
theorem eo_le : EO X (compareOp .LtE) (.int i) (.int j) H (.bl (decide (i ≤ j))) := eo_of op_le fun _ _ _ q => ⟨i, j, rfl, rfl, q⟩
theorem eo_gt : EO X (compareOp .Gt) (.int i) (.int j) H (.bl (decide (j < i))) := eo_of op_gt fun _ _ _ q => ⟨i, j, rfl, rfl, q⟩
theorem eo_ge : EO X (compareOp .GtE) (.int i) (.int j) H (.bl (decide (j ≤ i))) := eo_of op_ge fun _ _ _ q => ⟨i, j, rfl, rfl, q⟩
theorem eo_eqI : EO X (compareOp .Eq) (.int i) (.int j) H (.bl (decide (i = j))) := (eo_of (z := .bl (decide (V.int i = V.int j))) op_eq fun _ _ _ q => ⟨rfl, q⟩).is (by congr 1; rw [dec_int, Bool.eq_iff_iff]; simp)
theorem eo_neI : EO X (compareOp .NotEq) (.int i) (.int j) H (.bl (!decide (i = j))) := (eo_of (z := .bl (!decide (V.int i = V.int j))) op_ne fun _ _ _ q => ⟨rfl, q⟩).is (by congr 2; rw [dec_int, Bool.eq_iff_iff]; simp)
end
theorem eo_eqS {i j : Str} : EO X (compareOp .Eq) (.str i) (.str j) H (.bl (decide (i = j))) := (eo_of (z := .bl (decide (V.str i = V.str j))) op_eq fun _ _ _ q => ⟨rfl, q⟩).is (by congr 1; rw [dec_str, Bool.eq_iff_iff]; simp)
theorem eo_neS {i j : Str} : EO X (compareOp .NotEq) (.str i) (.str j) H (.bl (!decide (i = j))) := (eo_of (z := .bl (!decide (V.str i = V.str j))) op_ne fun _ _ _ q => ⟨rfl, q⟩).is (by congr 2; rw [dec_str, Bool.eq_iff_iff]; simp)
theorem eo_isN : EO X (compareOp .Is) x .non H (.bl (decide (x = .non))) := eo_of op_isN fun _ _ _ q => ⟨rfl, q⟩
theorem eo_inL {q : Addr} (h : SqL X.K H q xs) (hx : flatV x = true) (ha : xs.all flatV = true) : EO X (compareOp .In) x (.ref q) H (.bl (inV x xs)) := eo_of op_in_seq fun _ e _ k => ⟨q, xs, rfl, .inl (e.sqL h), hx, ha, k⟩
theorem eo_ninL {q : Addr} (h : SqL X.K H q xs) (hx : flatV x = true) (ha : xs.all flatV = true) : EO X (compareOp .NotIn) x (.ref q) H (.bl (!inV x xs)) := eo_of op_notIn_seq fun _ e _ k => ⟨q, xs, rfl, .inl (e.sqL h), hx, ha, k⟩
/-! ## comparisons -/
theorem we_cmp {op : CmpOp} (h : WE X a σ H fun x H1 => WE X b σ H1 fun y H2 => WO X (compareOp op) x y H2 Q) (hm : behindInMarks op b = false := by first | exact nomark _ | with_unfolding_all rfl) : WE X (.Compare a [op] [b] pos) σ H Q :=
  .of (pe_cmpR op_W pe_W pe_W hm) fun H1 x => h.t x fun v H2 ⟨H3, x3, w⟩ => w.t x3 fun u H4 ⟨H5, x5, o⟩ => o.t x5 fun _ _ q => q
theorem wt_cmp {op : CmpOp} (h : WE X a σ H fun x H1 => WE X b σ H1 fun y H2 => WO X (compareOp op) x y H2 fun z H3 => ∃ k, z = .bl k ∧ QB k H3) (hm : behindInMarks op b = false := by first | exact nomark _ | with_unfolding_all rfl) : WT X (.Compare a [op] [b] pos) σ H QB :=
  .of (pt_cmpR op_W pe_W pe_W hm) fun H1 x => h.t x fun v H2 ⟨H3, x3, w⟩ => w.t x3 fun u H4 ⟨H5, x5, o⟩ => o.t x5 fun _ _ ⟨H6, x6, k, e, q⟩ => ⟨k, e, H6, x6, q⟩
/-! ## and, or, not, tests -/
theorem wt_val (h : WE X e σ H fun x H1 => ∃ k, x = .bl k ∧ QB k H1) (he : ∀ whole, isTrue e X.env whole = (do let v ← whole; standAt e.pos; holding [v] (truthy v)) := by intro _; rfl) : WT X e σ H QB :=
  .of (pt_val pe_W he) fun H1 x => h.t x fun v H2 ⟨H3, x3, k, e, q⟩ => ⟨k, e, H3, x3, q⟩
theorem ww_and1 (h : WT X a σ H QB) : WW X (.BoolOp .And [a] pos) σ H QB := .of (pw_and1 pt_W) fun H1 x => h.t x fun _ _ q => q
theorem ww_or1 (h : WT X a σ H QB) : WW X (.BoolOp .Or [a] pos) σ H QB := .of (pw_or1 pt_W) fun H1 x => h.t x fun _ _ q => q
theorem ww_and (h : WT X a σ H fun k H1 => if k = true then WW X (.BoolOp .And (b :: rest) pos) σ H1 QB else QB false H1) : WW X (.BoolOp .And (a :: b :: rest) pos) σ H QB :=
  .of (pw_and pt_W pw_W) fun H1 x => h.t x fun k H2 ⟨H3, x3, q⟩ => by
    cases k with
    | true => exact iteT (WW.t (by simpa using q) x3 fun _ _ q => q)
    | false => exact iteF ⟨H3, x3, by simpa using q⟩
theorem ww_or (h : WT X a σ H fun k H1 => if k = true then QB true H1 else WW X (.BoolOp .Or (b :: rest) pos) σ H1 QB) : WW X (.BoolOp .Or (a :: b :: rest) pos) σ H QB :=
  .of (pw_or pt_W pw_W) fun H1 x => h.t x fun k H2 ⟨H3, x3, q⟩ => by
    cases k with
    | true => exact iteT ⟨H3, x3, by simpa using q⟩
    | false => exact iteF (WW.t (by simpa using q) x3 fun _ _ q => q)
theorem wt_ww (h : WW X e σ H QB) : WT X e σ H QB := fun H1 x pins s I => h H1 x _ pins s I
theorem wt_not (h : WT X a σ H fun k H1 => QB (!k) H1) : WT X (.UnaryOp .Not a pos) σ H QB := .of (pt_not pt_W) fun H2 x2 => h.t x2 fun _ _ q => q
/-- as values (bools) -/
theorem we_one {op} (h : WE X a σ H Q) : WE X (.BoolOp op [a] pos) σ H Q := .of (pe_one pe_W) fun H1 x => h.t x fun _ _ q => q
theorem we_andV (h : WE X a σ H fun x H1 => ∃ k, x = .bl k ∧ if k = true then WE X (.BoolOp .And (b :: rest) pos) σ H1 Q else Q (.bl false) H1) : WE X (.BoolOp .And (a :: b :: rest) pos) σ H Q :=
  .of (pe_and pe_W pe_W) fun H1 x => h.t x fun v H2 ⟨H3, x3, k, e, q⟩ => ⟨k, e, by
    cases k with
    | true => exact iteT (WE.t (by simpa using q) x3 fun _ _ q => q)
    | false => exact iteF ⟨H3, x3, by simpa using q⟩⟩
theorem we_orV (h : WE X a σ H fun x H1 => ∃ k, x = .bl k ∧ if k = true then Q (.bl true) H1 else WE X (.BoolOp .Or (b :: rest) pos) σ H1 Q) : WE X (.BoolOp .Or (a :: b :: rest) pos) σ H Q :=
  .of (pe_or pe_W pe_W) fun H1 x => h.t x fun v H2 ⟨H3, x3, k, e, q⟩ => ⟨k, e, by
    cases k with
    | true => exact iteT ⟨H3, x3, by simpa using q⟩
    | false => exact iteF (WE.t (by simpa using q) x3 fun _ _ q => q)⟩
theorem we_if (h : WT X c σ H fun k H1 => if k = true then WE X a σ H1 Q else WE X b σ H1 Q) : WE X (.IfExp c a b pos) σ H Q :=
  .of (pe_ifExp pt_W pe_W pe_W) fun H1 x => h.t x fun k H2 ⟨H3, x3, q⟩ => by
    cases k with
    | true => exact iteT (WE.t (by simpa using q) x3 fun _ _ q => q)
    | false => exact iteF (WE.t (by simpa using q) x3 fun _ _ q => q)
/-! ## lists of arguments, displays -/
theorem wa_nil (q : QA [] H) : WA X [] σ H QA := .of pa_nil fun H1 x => ⟨H, x, q⟩
theorem wa_cons (h : WE X e σ H fun x H1 => WA X es σ H1 fun xs H2 => QA (x :: xs) H2) (hs : starEach (e :: es) X.env = (false, eval e X.env) :: starEach es X.env := by rfl) : WA X (e :: es) σ H QA :=
  .of (pa_cons pe_W pa_W hs) fun H1 x => h.t x fun v H2 ⟨H3, x3, w⟩ => w.t x3 fun _ _ q => q
theorem we_tup {x1} (h : WA X es σ H fun xs H1 => xs.length ≤ sizeLine ∧ ∀ p, H1 p = none → Q (.ref p) (upd H1 p (.tup xs))) : WE X (.Tuple es x1 pos) σ H Q :=
  .of (pe_tup pa_W) fun H1 x => h.t x fun xs H2 ⟨H3, x3, hz, k⟩ => ⟨hz, fun p hp => ⟨_, x3.set p _, k p (x3.free hp)⟩⟩
theorem we_lst (h : WA X es σ H fun xs H1 => xs.length ≤ sizeLine ∧ ∀ p, H1 p = none → Q (.ref p) (upd H1 p (.lst xs))) : WE X (.List es pos) σ H Q :=
  .of (pe_lst pa_W) fun H1 x => h.t x fun xs H2 ⟨H3, x3, hz, k⟩ => ⟨hz, fun p hp => ⟨_, x3.set p _, k p (x3.free hp)⟩⟩
theorem small {n : Nat} (h : n ≤ 100000) : n ≤ sizeLine := Nat.le_trans h (by decide)
theorem en_dict0 : EN X (.Dict [] [] pos) σ H (.dK []) := fun H1 x Q q => .of pe_dnewK fun H2 x2 p hp => ⟨_, x2.set p _, q p (x2.free hp)⟩
/-! ## subscripts -/
theorem we_ix {r : R2} (hr : IxR X r) (h : WE X a σ H fun x H1 => WE X b σ H1 fun y H2 => ∀ H3, Ex H2 H3 → r x y H3 (up Q)) (hs : PlainIx b := by intro _ _; rfl) : WE X (.Subscript a b pos) σ H Q :=
  .of (pe_ix hr pe_W pe_W hs) fun H1 x => h.t x fun v H2 ⟨H3, x3, w⟩ => w.t x3 fun u H4 ⟨H5, x5, o⟩ => o H4 x5
/-! ## builtins called by name -/
theorem we_callB {id : String} {n : Str} (hm : X.mg n = none) (hv : bootBuiltins n = some (.builtin id)) (ha : WA X (e :: es) σ H fun vs H1 => WC X (.builtin id) vs H1 Q) (hg : Gl X n := by rfl) (hn : n ≠ "__name__" := by decide) (hdb : (n == ("__debug__" : Str)) = false := by decide)
    (he : starEach (e :: es) X.env = (false, eval e X.env) :: starEach es X.env := by rfl) (hpl : (backTo pos (starEach es X.env)).any (·.1) = false := by rfl) : WE X (.Call (.Name n p) (e :: es) [] pos) σ H Q :=
  .of (pe_callB call_W hg hm hv pa_W hn hdb he hpl) fun H1 x => ha.t x fun vs H2 ⟨H3, x3, w⟩ => w.t x3 fun _ _ q => q
theorem we_callTy {T : String} {n : Str} (hm : X.mg n = none) (hv : bootBuiltins n = some (.type T)) (ha : WA X (e :: es) σ H fun vs H1 => WC X (.type T) vs H1 Q) (hg : Gl X n := by rfl) (hn : n ≠ "__name__" := by decide) (hdb : (n == ("__debug__" : Str)) = false := by decide)
    (he : starEach (e :: es) X.env = (false, eval e X.env) :: starEach es X.env := by rfl) (hpl : (backTo pos (starEach es X.env)).any (·.1) = false := by rfl) : WE X (.Call (.Name n p) (e :: es) [] pos) σ H Q :=
  .of (pe_callTy call_W hg hm hv pa_W hn hdb he hpl) fun H1 x => ha.t x fun vs H2 ⟨H3, x3, w⟩ => w.t x3 fun _ _ q => q
theorem ec_of {r : List V → Hp → VK → Prop} (h : CallR X fn r) (q : ∀ H1, Ex H H1 → ∀ Q : VK, Q z H1 → r vs H1 Q) : EC X fn vs H z := fun H1 e Q k => .of h fun H2 e2 => q H2 (e.trans e2) _ ⟨H1, e2, k⟩
theorem cn_of {r : List V → Hp → VK → Prop} {o : HO} (h : CallR X fn r) (q : ∀ H1, Ex H H1 → ∀ Q : VK, (∀ p, H1 p = none → Q (.ref p) (upd H1 p o)) → r vs H1 Q) : CN X fn vs H o := fun H1 e Q k => .of h fun H2 e2 => q H2 (e.trans e2) _ fun p hp => ⟨_, e2.set p o, k p (e2.free hp)⟩
/-- a call as an argument: evaluated, a value -/
theorem ec_abs {i : Int} : EC X (.builtin "abs") [.int i] H (.int (if i < 0 then -i else i)) := ec_of call_abs fun _ _ _ q => ⟨i, rfl, q⟩
theorem ec_max {i j : Int} (hc : X.calm = true) : EC X (.builtin "max") [.int i, .int j] H (.int (if j > i then j else i)) := ec_of (call_max2 hc) fun _ _ _ q => ⟨i, j, rfl, q⟩
theorem ec_min {i j : Int} (hc : X.calm = true) : EC X (.builtin "min") [.int i, .int j] H (.int (if j < i then j else i)) := ec_of (call_min2 hc) fun _ _ _ q => ⟨i, j, rfl, q⟩
theorem ec_lenL {p : Addr} (h : SqL X.K H p xs) : EC X (.builtin "len") [.ref p] H (.int xs.length) := ec_of call_len_seq fun _ e _ q => ⟨p, xs, rfl, .inl (e.sqL h), q⟩
theorem ec_lenT {p : Addr} (h : SqT X.K H p xs) : EC X (.builtin "len") [.ref p] H (.int xs.length) := ec_of call_len_seq fun _ e _ q => ⟨p, xs, rfl, .inr (e.sqT h), q⟩
theorem ec_all {p : Addr} {ns : List Bool} (h : SqL X.K H p (ns.map V.bl)) (hc : X.calm = true) : EC X (.builtin "all") [.ref p] H (.bl (ns.all id)) := ec_of (cr_all hc) fun _ e _ q => ⟨p, ns, rfl, e.sqL h, q⟩
theorem ec_any {p : Addr} {ns : List Bool} (h : SqL X.K H p (ns.map V.bl)) (hc : X.calm = true) : EC X (.builtin "any") [.ref p] H (.bl (ns.any id)) := ec_of (cr_any hc) fun _ e _ q => ⟨p, ns, rfl, e.sqL h, q⟩
theorem cn_divmod {i j : Int} (h : CDivP i j) : CN X (.builtin "divmod") [.int i, .int j] H (.tup [.int (i / j), .int (i % j)]) := cn_of call_divmodW fun _ _ _ q => ⟨i, j, rfl, h, q⟩
theorem cn_listL {p : Addr} (h : SqL X.K H p xs) : CN X (.type "list") [.ref p] H (.lst xs) := cn_of call_list_of fun _ e _ q => ⟨p, xs, rfl, .inl (e.sqL h), q⟩
theorem cn_tupleL {p : Addr} (h : SqL X.K H p xs) : CN X (.type "tuple") [.ref p] H (.tup xs) := cn_of call_tuple_of fun _ e _ q => ⟨p, xs, rfl, .inl ⟨e.sqL h, q⟩⟩
end
/-- what the code around wishes of an exception; it grows with the heap -/
structure Tk (X : Cx) (W : WX) : Prop where
  tk : Takes X W
  up : ∀ c d σ H H', W c d σ H → Ex H H' → W c d σ H'
  own : PassesOwn (model X.prog X.w) X.A X.env X.xe
section
variable {X : Cx} {W : WX} {e a b c tg iter : Expr} {es rest tgs : List Expr} {st : Stmt} {sts body : List Stmt} {σ : St} {H H1 H' : Hp} {Q Q1 : VK} {QB QB1 : Bool → Hp → Prop} {QA QA1 : List V → Hp → Prop} {D : Ends} {x y z v w : V} {pos p pos' : Pos} {f : Value → Value → Sem Value} {fn : Value} {xs vs : List V} {k l : Bool} {R R1 : St → Hp → Prop}

/-! ## blocks, small statements -/
theorem wss_nil (q : D.nx σ H) : WSs X [] D σ H := .of pss_nil fun H1 x => ⟨H, x, q⟩
theorem wss_cons (h : WS X st { D with nx := fun σ' H' => WSs X sts D σ' H' } σ H) : WSs X (st :: sts) D σ H :=
  .of (pss_cons ps_W pss_W) fun H1 x => ⟨H, _, x, h, ⟨fun σ' H2 ⟨H3, x3, w⟩ => ⟨H3, D, x3, w, EndsLe.rfl⟩, fun _ _ q => q, fun _ _ q => q, fun _ _ q => q⟩⟩
theorem wss_one (h : WS X st D σ H) : WSs X [st] D σ H := .of (pss_one ps_W) fun H1 x => ⟨H, D, x, h, EndsLe.rfl⟩
theorem ws_expr (h : WE X e σ H fun _ H1 => D.nx σ H1) (hs : swapsWith e none pos.line X.env = pure false := by rfl) : WS X (.Expr e pos) D σ H :=
  .of (ps_expr pe_W hs) fun H1 x => h.t x fun _ _ q => q
theorem ws_ret (h : WE X e σ H D.rt) : WS X (.Return (some e) pos) D σ H := .of (ps_ret pe_W) fun H1 x => h.t x fun _ _ q => q
theorem ws_if (h : WT X c σ H fun k H1 => if k = true then WSs X sts D σ H1 else WSs X body D σ H1) : WS X (.If c sts body pos) D σ H :=
  .of (ps_if pt_W pss_W pss_W) fun H1 x => h.t x fun k H2 ⟨H3, x3, q⟩ => by
    cases k with
    | true => exact iteT ⟨H3, D, x3, by simpa using q, EndsLe.rfl⟩
    | false => exact iteF ⟨H3, D, x3, by simpa using q, EndsLe.rfl⟩
theorem WS.le {D1 : Ends} (w : WS X st D σ H) (k : EndsLe D (upD D1)) : WS X st D1 σ H := fun H1 x pins s I => thn (w H1 x pins s I) fun u s' q => SP.le k q
/-! ## targets -/
def WG (X : Cx) (tg : Expr) (v : V) (σ : St) (H : Hp) (R : St → Hp → Prop) : Prop :=
  ∀ H1, Ex H H1 → ∀ pins s u, Inv X pins σ H1 s → RelV v u → wpAny (model X.prog X.w) X.A (assign tg X.env u) (fun _ s' => ∃ σ' H', Inv X pins σ' H' s' ∧ upS R σ' H') X.xe s
def tWG (X : Cx) (tg : Expr) : TG := fun v σ H1 R1 => ∃ H R, Ex H H1 ∧ WG X tg v σ H R ∧ ∀ σ' H2, upS R σ' H2 → R1 σ' H2
theorem pg_W : PG X tg (tWG X tg) := ⟨fun pins s σ H1 v u R1 I r ⟨H, R, x, w, k⟩ => thn (w H1 x pins s u I r) fun _ s' ⟨σ', H2, I2, q⟩ => ⟨σ', H2, I2, k _ _ q⟩⟩
theorem WG.of {t : TG} (h : PG X tg t) (q : ∀ H1, Ex H H1 → t v σ H1 (upS R)) : WG X tg v σ H R := fun H1 x pins s u I r => h.run pins s σ H1 v u _ I r (q H1 x)
theorem WG.t (w : WG X tg v σ H R) (x : Ex H H1) (k : ∀ σ' H2, upS R σ' H2 → R1 σ' H2) : tWG X tg v σ H1 R1 := ⟨H, R, x, w, k⟩
theorem wg_name {i : Nat} {n : Str} (hN : X.N.Nodup) (hi : X.N[i]? = some n) (q : R (σ.set i (some v)) H) (hx : Loc X.env.scope n := by first | exact .inl rfl | exact .inr rfl) (hf : X.fn n = true ∨ X.env.scope.names.lookup n = some .local := by first | exact .inl rfl | exact .inr rfl | assumption) : WG X (.Name n pos) v σ H R :=
  .of (pg_name hN hi hx hf) fun H1 x => ⟨H, x, q⟩
/-- several, from the left -/
def WGs (X : Cx) (ts : List Expr) (vs : List V) (σ : St) (H : Hp) (R : St → Hp → Prop) : Prop :=
  ∀ H1, Ex H H1 → ∀ pins s us, Inv X pins σ H1 s → Vals vs us → wpAny (model X.prog X.w) X.A (assignInOrder ((assignEach ts X.env).map (·.2)) us) (fun _ s' => ∃ σ' H', Inv X pins σ' H' s' ∧ upS R σ' H') X.xe s
def tWGs (X : Cx) (ts : List Expr) : TGs := fun vs σ H1 R1 => ∃ H R, Ex H H1 ∧ WGs X ts vs σ H R ∧ ∀ σ' H2, upS R σ' H2 → R1 σ' H2
theorem pgs_W : PGs X tgs (tWGs X tgs) := ⟨fun pins s σ H1 vs us R1 I r ⟨H, R, x, w, k⟩ => thn (w H1 x pins s us I r) fun _ s' ⟨σ', H2, I2, q⟩ => ⟨σ', H2, I2, k _ _ q⟩⟩
theorem WGs.of {t : TGs} (h : PGs X tgs t) (q : ∀ H1, Ex H H1 → t vs σ H1 (upS R)) : WGs X tgs vs σ H R := fun H1 x pins s us I r => h.run pins s σ H1 vs us _ I r (q H1 x)
theorem wgs_nil (q : R σ H) : WGs X [] [] σ H R := .of pgs_nil fun H1 x => ⟨rfl, H, x, q⟩
theorem wgs_cons (h : WG X tg v σ H fun σ' H' => WGs X tgs vs σ' H' R) (hs : (assignEach (tg :: tgs) X.env).map (·.2) = assign tg X.env :: (assignEach tgs X.env).map (·.2) := by rfl) : WGs X (tg :: tgs) (v :: vs) σ H R :=
  .of (pgs_cons pg_W pgs_W hs) fun H1 x => ⟨v, vs, rfl, h.t x fun σ' H2 ⟨H3, x3, w⟩ => ⟨H3, R, x3, w, fun _ _ q => q⟩⟩
theorem wg_tup {t : Addr} {i : Nat} (hs : SqT X.K H t vs) (h : WGs X tgs vs σ H R) (hc : X.calm = true := by rfl) (hn : (assignEach tgs X.env).length = vs.length := by rfl) (hst : (assignEach tgs X.env).findIdx? (·.1) = none := by rfl) : WG X (.Tuple tgs i pos) (.ref t) σ H R :=
  .of (pg_tup (n := vs.length) hc pgs_W hn hst) fun H1 x => ⟨t, vs, rfl, x.sqT hs, rfl, H, R, x, h, fun _ _ q => q⟩
theorem wg_lst {t : Addr} {i : Nat} (hs : SqL X.K H t vs) (h : WGs X tgs vs σ H R) (hc : X.calm = true := by rfl) (hn : (assignEach tgs X.env).length = vs.length := by rfl) (hst : (assignEach tgs X.env).findIdx? (·.1) = none := by rfl) : WG X (.Tuple tgs i pos) (.ref t) σ H R :=
  .of (pg_lst (n := vs.length) hc pgs_W hn hst) fun H1 x => ⟨t, vs, rfl, x.sqL hs, rfl, H, R, x, h, fun _ _ q => q⟩
/-! ## assignments -/
theorem ws_set {i : Nat} {n : Str} (hN : X.N.Nodup) (hi : X.N[i]? = some n) (h : WE X e σ H fun x H1 => D.nx (σ.set i (some x)) H1) (hx : Loc X.env.scope n := by first | exact .inl rfl | exact .inr rfl) (hs : swapsWith e (some (.Name n pos')) pos.line X.env = pure false := by rfl)
    (hf : X.fn n = true ∨ X.env.scope.names.lookup n = some .local := by first | exact .inl rfl | exact .inr rfl | assumption) : WS X (.Assign [.Name n pos'] e pos) D σ H :=
  .of (ps_set hN hi hx pe_W hs hf) fun H1 x => h.t x fun _ _ q => q
theorem ws_asg (h : WE X e σ H fun x H1 => WG X tg x σ H1 D.nx) (hs : swapsWithSole [tg] e pos.line X.env = pure false := by rfl) (hw : swappedStores [tg] e X.env = pure none := by rfl)
    (h1 : (assignEach [tg] X.env).map (·.2) = [assign tg X.env] := by rfl) : WS X (.Assign [tg] e pos) D σ H :=
  .of (ps_asg pe_W pg_W hs hw h1) fun H1 x => h.t x fun v H2 ⟨H3, x3, w⟩ => w.t x3 fun _ _ q => q
theorem ws_aug {i : Nat} {n : Str} {op : Operator} (hN : X.N.Nodup) (hi : X.N[i]? = some n) (hx : σ[i]? = some (some x)) (h : WE X e σ H fun y H1 => WO X (inplaceOp op) x y H1 fun z H2 => D.nx (σ.set i (some z)) H2) (hl : Loc X.env.scope n := by first | exact .inl rfl | exact .inr rfl)
    (hf : X.fn n = true ∨ X.env.scope.names.lookup n = some .local := by first | exact .inl rfl | exact .inr rfl | assumption) : WS X (.AugAssign (.Name n pos') op e pos) D σ H :=
  .of (ps_aug hN hi hl pe_W (fun pins s σ H x y v u Q I rx ry q => op_W pins s σ H x y v u Q I rx ry q) hf) fun H1 e1 => ⟨x, hx, h.t e1 fun y H2 ⟨H3, x3, w⟩ => w.t x3 fun _ _ q => q⟩
section
variable {i j : Int}
theorem ip_sub : EO X (inplaceOp .Sub) (.int i) (.int j) H (.int (i - j)) := eo_of iop_sub fun _ _ _ q => ⟨i, j, rfl, rfl, q⟩
theorem ip_shr (h : 0 ≤ j) : EO X (inplaceOp .RShift) (.int i) (.int j) H (.int (i / 2 ^ j.toNat)) := eo_of iop_shr fun _ _ _ q => ⟨i, j, rfl, rfl, h, q⟩
end

/-! ## loops -/
/-- while, by an invariant with its measure -/
theorem ws_while (tk : Tk X W) (Pv : Nat → St → Hp → Prop) (m : Nat) (h0 : Pv m σ H)
    (hs : ∀ m σ' H', Pv m σ' H' → WT X c σ' H' fun k H2 => if k = true then WSs X body { D with nx := fun σ3 H3 => ∃ m', m' < m ∧ Pv m' σ3 H3, ct := fun σ3 H3 => ∃ m', m' < m ∧ Pv m' σ3 H3, bk := D.nx } σ' H2 else D.nx σ' H2) : WS X (.While c body [] pos) D σ H :=
  .of (ps_while tk.own pt_W pss_W) fun H1 x => ⟨fun m => upS (Pv m), ⟨m, H, x, h0⟩, fun m σ' H2 ⟨H3, x3, p⟩ => (hs m σ' H3 p).t x3 fun k H4 ⟨H5, x5, q⟩ => by
    cases k with
    | true =>
      rw [if_pos rfl] at q
      exact iteT ⟨fun σ6 H6 => ∃ m', m' < m ∧ upS (Pv m') σ6 H6, fun _ _ n => n, H5, _, x5, q, ⟨fun _ _ ⟨H7, x7, m', l, p⟩ => ⟨m', l, H7, x7, p⟩, fun _ _ q => q, fun _ _ q => q, fun _ _ ⟨H7, x7, m', l, p⟩ => ⟨m', l, H7, x7, p⟩⟩⟩
    | false => exact iteF ⟨H5, x5, by simpa using q⟩⟩
end
/-! ## defs: a promise that is kept wherever no repr is at work -/
structure FnG (P : Program) (w : World) (K : PySem.W.Frag) (mg : Str → Option Value) (base : Heap) (k : Nat) (f : Addr) (fd : FuncData) (ps : List Str) (sp : Sp) : Prop where
  len : ∀ vs H Q E, sp vs H Q E → vs.length = ps.length
  run : ∀ (A : Around) (outer : List Env) (s : Shared) (H1 : Hp) (args : Args) (us : List Value) (vs : List V) (H : Hp) (Q : VK) (E : XK), Room k A → A.guards = some [] → Env0 P w K mg base A outer s H1 → BindsTo s fd args (ps.zip us) → Vals vs us → Ex H H1 →
    sp vs H Q E → codeAny (model P w) A (.call (.ref f) args) (CR (L2.CX P w) outer P w H1 s (up Q) (upE E)) s
/-- the code around: room, no repr, its wish -/
structure Cn (X : Cx) (W : WX) (k : Nat) : Prop where
  room : X.calm = true → Room k X.A
  un : X.A.units + 16 * k + 200 < cLine
  gd : X.A.guards = some []
  tk : Takes X W
  wu : ∀ c d σ H H', W c d σ H → Ex H H' → W c d σ H'
theorem Cn.mono {X : Cx} {W : WX} {j k : Nat} (c : Cn X W k) (h : j ≤ k) : Cn X W j := ⟨fun z => (c.room z).mono h, by have := c.un; omega, c.gd, c.tk, c.wu⟩
theorem Cn.units {X : Cx} {W : WX} {k : Nat} (c : Cn X W k) : X.A.units + 64 < cLine := by have := c.un; omega
theorem Cn.units0 {X : Cx} {W : WX} {k : Nat} (c : Cn X W k) : X.A.units < cLine := by have := c.un; omega
theorem Cn.hu {X : Cx} {W : WX} {k : Nat} (c : Cn X W k) : X.A.units + 1 < cLine := by have := c.un; omega
abbrev Own (X : Cx) : Prop := PassesOwn (model X.prog X.w) X.A X.env X.xe
theorem Cn.t {X : Cx} {W : WX} {k : Nat} (c : Cn X W k) (o : Own X) : Tk X W := ⟨c.tk, c.wu, o⟩

/-- a def's body as it runs -/
abbrev fx (P : Program) (w : World) (K : PySem.W.Frag) (mg : Str → Option Value) (base : Heap) (N : List Str) (qual : Str) (st : Stmt) (f : Addr) (cd : Value) (A : Around) (outer : List Env) (s : Shared) (H : Hp) (E : XK) : Cx :=
  cxOf (L2.CX P w) P w K mg base N qual (defScope st) f cd A outer s H E
section
variable {P : Program} {w : World} {K : PySem.W.Frag} {mg : Str → Option Value} {base : Heap}
/-- THE RULE of a def: its body -/
theorem fng_of {x qual : Str} {st : Stmt} {f : Addr} {fd : FuncData} {N ps : List Str} {k : Nat} {sp : Sp} (F : Fun K x qual st f fd) (S : FnScope N ps (defScope st)) (len : ∀ vs H Q E, sp vs H Q E → vs.length = ps.length)
    (body : ∀ (cd : Value) (A : Around) (outer : List Env) (s : Shared) (H1 : Hp) (E1 : XK) (W : WX) (vs : List V) (H : Hp) (Q : VK) (E : XK), Cn (fx P w K mg base N qual st f cd A outer s H1 E1) W k → Own (fx P w K mg base N qual st f cd A outer s H1 E1) →
      (∀ c d σ H', E c d H' → W c d σ H') → sp vs H Q E → WSs (fx P w K mg base N qual st f cd A outer s H1 E1) (defBody st) { nx := fun _ H' => Q .non H', rt := Q } (start N vs) H) : FnG P w K mg base (k + 1) f fd ps sp := by
  obtain ⟨oc, od, kV, doc, pm, an, cd, ct, osl, rfl, lk, hcd⟩ := F.ex
  refine ⟨len, fun A outer s H1 args us vs H Q E hr hgd e0 hb r hx hsp => ?_⟩
  have KX : K.In s.heap := e0.mod.kin.keeps fun b o e => (e0.bs b o e).1
  have hl := len _ _ _ _ hsp
  have kinds : ∀ y ∈ ps.zip us, (defScope st).names.lookup y.1 = some .local ∨ ((defScope st).names.lookup y.1 = some .cell ∧ ((cellsFrom (s.heap.objs.size + 1) (defScope st).names []).lookup y.1).isSome = true) := by
    rintro ⟨n, v⟩ hy
    rcases S.par n (List.of_mem_zip hy).1 with q | q
    · exact .inl q
    · exact .inr ⟨q, PySem.W.cellsFrom_some _ _ _ (.inl q)⟩
  refine codeAny_call_function hr.depth (KX _ _ lk) rfl S.co S.gen rfl (PySem.W.codeRec_of KX hcd) (hb _ _ _ _ (wpAny_newFunctionEnv_cells S.kind kinds fun env he s1 x => ?_))
  subst he
  refine ⟨(e0.mod.nolimit.keeps fun b o e => (e0.bs b o e).1).keeps x.toInCall.keep, codeAny_func ?_⟩
  have I := inv_start (CX := L2.CX P w) (E := upE E) S hr.hd e0 hl r x
  have c : Cn (fx P w K mg base N qual st f cd A outer s H1 (upE E)) (fun c d _ H' => upE E c d H') k :=
    ⟨fun _ => hr.deeper _, (hr.deeper _).un, hgd, takes_of (E := upE E) rfl rfl rfl rfl, fun c d σ H H' ⟨H2, x2, q⟩ x3 => ⟨H2, x2.trans x3, q⟩⟩
  have w1 := body cd A outer s H1 (upE E) _ vs H Q E c (passes_of rfl) (fun c d σ H' q => ⟨H', Ex.refl H', q⟩) hsp
  refine wpAny_mono (w1 H1 hx [] s1 I) (fun fl s' q => ?_) fun e s' q => q
  cases fl with
  | ret u =>
    obtain ⟨v, σ', H', J, rv, q⟩ := q
    exact ⟨v, H', J.os, J.bare, J.base, J.hok, rv, q⟩
  | next =>
    obtain ⟨σ', H', J, q⟩ := q
    exact ⟨.non, H', J.os, J.bare, J.base, J.hok, rfl, q⟩
  | brk =>
    obtain ⟨_, _, _, _, _, q⟩ := q
    exact q.elim
  | cont =>
    obtain ⟨_, _, _, _, _, q⟩ := q
    exact q.elim
/-- a def that is found under its name: level, parameters, defaults, promise -/
structure Cal (P : Program) (w : World) (K : PySem.W.Frag) (mg : Str → Option Value) (base : Heap) (n : Str) (k : Nat) (ps : List Str) (dvs : List V) (sp : Sp) : Prop where
  ex : ∃ (f : Addr) (fd : FuncData) (ds : List Value), FnG P w K mg base k f fd ps sp ∧ mg n = some (.ref f) ∧ PySem.W.keepIn K (.ref f) = true ∧ Binds K fd ps ds ∧ Vals dvs ds ∧ ∃ oc od osl, K.lookup f = some ⟨oc, od, .func fd, osl⟩
/-- where a def stands -/
structure Def (K : PySem.W.Frag) (mg : Str → Option Value) (n : Str) (st : Stmt) (ps : List Str) : Type where
  f : Addr
  fd : FuncData
  F : Fun K n n st f fd
  g : mg n = some (.ref f)
  b : Binds K fd ps []
end

section
variable {X : Cx} {W : WX} {e : Expr} {es : List Expr} {σ : St} {H H1 : Hp} {Q : VK} {E : XK} {v : V} {vs dvs : List V} {n : Str} {k j : Nat} {f : Addr} {fd : FuncData} {ps : List Str} {sp : Sp} {us ds : List Value} {p pos : Pos} {pins : List (Addr × Obj)} {s : Shared}
end

/-! ## raise -/
section
variable {X : Cx} {W : WX} {e : Expr} {es : List Expr} {σ : St} {H H1 : Hp} {Q : VK} {D : Ends} {E : XK} {n : Str} {C : Addr} {p pos : Pos} {k : Nat}
def WM (X : Cx) (e : Expr) (σ : St) (H : Hp) (E : XK) : Prop := ∀ H1, Ex H H1 → ∀ pins s, Inv X pins σ H1 s → wpAny (model X.prog X.w) X.A (eval e X.env) (MkP X pins σ (upE E)) X.xe s
theorem ws_raise (c : Cn X W k) (h : WM X e σ H fun c d H' => W c d σ H') (hc : X.calm = true := by rfl) : WS X (.Raise (some e) none pos) D σ H :=
  .of (ps_raise hc c.tk (t := fun σ H1 E1 => ∃ H E, Ex H H1 ∧ WM X e σ H E ∧ ∀ c d H', upE E c d H' → E1 c d H') fun pins s σ H1 E1 I ⟨H, E, x, w, k⟩ =>
    thn (w H1 x pins s I) fun u s1 ⟨a, oe, vs, sI, H', cls, d, e1, J, k1, hne, ha, hz, hd, h1, na, os, ag, r, q⟩ => ⟨a, oe, vs, sI, H', cls, d, e1, J, k1, hne, ha, hz, hd, h1, na, os, ag, r, k _ _ _ q⟩)
    fun H1 x => ⟨H, _, x, h, fun c1 d1 H' ⟨H2, x2, q⟩ => c.wu _ _ _ _ _ q x2⟩
/-- an own class of error without an __init__ -/
structure ErrC (K : PySem.W.Frag) (mg : Str → Option Value) (n : Str) (C : Addr) : Prop where
  g : mg n = some (.ref C)
  x : PySem.W.excIn K C [.type "ValueError", .type "Exception", .type "BaseException", .type "object"] "ValueError.__new__" = true
  kp : PySem.W.keepIn K (.ref C) = true
  sb : PySem.W.subIn K (.ref C) (.type "BaseException") = some true
  ty : PySem.W.typeIn K (.ref C) = some (.type "type")
  dd : PySem.W.hasDictIn K C = true
theorem wm_err (T : ErrC X.K X.mg n C) (ha : WA X (e :: es) σ H fun vs H1 => vs.length ≤ 1000 ∧ E (.ref C) none H1) (hg : Gl X n := by rfl) (hdb : (n == ("__debug__" : Str)) = false := by decide)
    (he : starEach (e :: es) X.env = (false, eval e X.env) :: starEach es X.env := by rfl) (hpl : (backTo pos (starEach es X.env)).any (·.1) = false := by rfl) : WM X (.Call (.Name n p) (e :: es) [] pos) σ H E := fun H1 x pins s I =>
  (pmk_ownA PySem.F.excBase_ValueError T.x T.g T.kp (raises_own T.sb T.ty) hg pa_W hdb he hpl) pins s σ H1 _ I (ha.t x fun vs H2 ⟨H3, x3, hz, q⟩ => ⟨Nat.le_trans hz (by decide), H3, x3, q⟩)
end

/-! ## f-strings -/
section
variable {X : Cx} {e a b : Expr} {es : List Expr} {σ : St} {H H1 : Hp} {p pos : Pos}
inductive JV (X : Cx) (σ : St) (H : Hp) : List Expr → List Str → Prop where
  | nil : JV X σ H [] []
  | cons {e : Expr} {y : Str} {es : List Expr} {ys : List Str} (h : EV X e σ H (.str y)) (r : JV X σ H es ys) : JV X σ H (e :: es) (y :: ys)
theorem JV.pj {ys : List Str} (h : JV X σ H es ys) : PJ X es (es.map (tWE X)) := by
  induction h with
  | nil => exact .nil
  | cons h r ih => exact .cons pe_W ih
theorem strlen (a b : Str) : (a ++ b).length = a.length + b.length := by
  show (Str.mk (a.cps ++ b.cps)).cps.size = _
  simp [Str.length]
theorem JV.run {ys : List Str} (h : JV X σ H es ys) : ∀ (acc : Str) (Q : Str → Hp → Prop) (H1 H2 : Hp), Ex H H1 → Ex H1 H2 → acc.length + (ys.map Str.length).sum ≤ sizeLine → (∀ H3, Ex H1 H3 → Q (ys.foldl (· ++ ·) acc) H3) → tJs (es.map (tWE X)) acc σ H2 Q := by
  induction h with
  | nil => intro acc Q H1 H2 x x2 hz k; exact k H2 x2
  | @cons e y es ys h r ih =>
    intro acc Q H1 H2 x x2 hz k
    refine ((h.ex x).we (Q := fun v H => v = .str y ∧ H = H1) ⟨rfl, rfl⟩).t x2 fun v H3 ⟨H4, x4, ev, eH⟩ => ?_
    subst ev; subst eH
    have hz2 : acc.length + (y.length + (ys.map Str.length).sum) ≤ sizeLine := by simpa using hz
    exact ⟨y, rfl, by rw [strlen]; omega, ih (acc ++ y) Q H4 H3 x x4 (by rw [strlen]; omega) k⟩
end
/-! ## try -/
section
variable {X : Cx} {W : WX} {body suite : List Stmt} {b0 : Stmt} {σ : St} {H H1 : Hp} {D : Ends} {n x : Str} {i k : Nat} {c : Value} {np pos pos' : Pos}
/-- the suite's ends, the name gone -/
def endsAs (i : Nat) (D : Ends) : Ends := { nx := fun σ' H' => D.nx (σ'.set i none) H', rt := D.rt, bk := fun σ' H' => D.bk (σ'.set i none) H', ct := fun σ' H' => D.ct (σ'.set i none) H' }
def Suite (X : Cx) (a : Addr) (cls : Value) (d : Option Addr) (sts : List Stmt) (D : Ends) (σ : St) (H : Hp) : Prop := ∀ oe pn, Zc cls d oe → (∃ vs, oe.data = .fields vs) → WSs (X.suite a ((a, oe) :: pn)) sts D σ H
def upW (W : WX) : WX := fun c d σ H => ∃ H', Ex H' H ∧ W c d σ H'
theorem Cn.tr {k : Nat} {W W1 : WX} {pn : List (Addr × Obj)} {xe : Value → Shared → Prop} (cn : Cn X W k) (tk : Takes (X.tr pn xe) W1) (h : ∀ c d σ H, upW W1 c d σ H → W1 c d σ H) : Cn (X.tr pn xe) W1 k :=
  ⟨cn.room, cn.un, cn.gd, tk, fun c d σ H H' w x => h _ _ _ _ ⟨H, x, w⟩⟩
def tSuite (X : Cx) (sts : List Stmt) (a : Addr) (cls : Value) (d : Option Addr) : TS := fun D1 σ H1 => ∃ H D, Ex H H1 ∧ Suite X a cls d sts D σ H ∧ EndsLe D D1
def tBody (X : Cx) (sts : List Stmt) (W : WX) : TS := fun D1 σ H1 => ∃ H D, Ex H H1 ∧ (∀ pn xe, Takes (X.tr pn xe) W → PassesOwn (model X.prog X.w) X.A X.env xe → WSs (X.tr pn xe) sts D σ H) ∧ EndsLe D D1
end

/-! ## the law's end -/
section
variable {P : Program} {w : World} {K : PySem.W.Frag} {mg mb : Str → Option Value} {k : Nat} {fa a : Addr} {fd : FuncData} {x : Str} {sp : Sp} {s : Shared} {vs : List Value} {ns : List Int}
/-- from an abstract heap that tracks nothing but the script -/
theorem end_from (KX : K.In s.heap) (hns : s.heap.Ns mainGlobals mg) (hb : s.heap.Ns builtinsNs mb) (hbb : ∀ x : Str, x ≠ "__name__" → mb x = bootBuiltins x) (hlim : s.heap.NoLimit) (hg : s.gens = #[])
    (ha : s.heap.get? a = some { cls := .type "list", data := .seq vs.toArray }) (hr : Room k callerA) (F : ∀ base : Heap, FnG P w K mg base k fa fd [x] sp) (hbind : ∀ (s : Shared) (u : Value), BindsTo s fd ⟨[u], []⟩ [(x, u)])
    (H : Hp) (hO : Only H) (hok : HOk P w H s.heap) (hA : ∀ b, H b ≠ none → b = a) (hK : H a ≠ none → K.lookup a = none) (hsp : sp [.ref a] H (fun v _ => v = .bl true) fun _ _ _ => False) :
    codeAny (model P w) callerA (.call (.ref fa) ⟨[.ref a], []⟩) (fun r s' => r = .ok (.ret (.bool true)) ∧ OldK s.heap s'.heap ∧ s'.os = s.os ∧ AllBare s'.gens) s := by
  have notDict : ∀ {b : Addr} {o : Obj} {es : Array DictEntry} {ep : Nat}, s.heap.get? b = some o → o.data = .dict es ep → H b = none := by
    intro b o es ep e d
    cases q : H b with
    | none => rfl
    | some u =>
      obtain rfl : b = a := hA b (by rw [q]; simp)
      rw [ha] at e; cases e; cases d
  have ns1 : ∀ {b : Addr} {m : Str → Option Value}, s.heap.Ns b m → (hidT s.heap H).Ns b m := fun ⟨o, es, ep, e, d, r⟩ => ⟨o, es, ep, hidT_get e (notDict e d), d, r⟩
  have KB : K.In (hidT s.heap H) := by
    intro b o e
    refine hidT_get (KX b o e) ?_
    cases q : H b with
    | none => rfl
    | some u =>
      obtain rfl : b = a := hA b (by rw [q]; simp)
      rw [hK (by rw [q]; simp)] at e; cases e
  have e0 : Env0 P w K mg (hidT s.heap H) callerA [] s H :=
    ⟨rfl, ⟨KB, ns1 hns, ⟨mb, ns1 hb, hbb⟩, by obtain ⟨mc, h1, h2⟩ := hlim; exact ⟨mc, ns1 h1, h2⟩⟩, fun b o e => of_hidT e, Nat.le_of_eq (hidT_size _ _), trivial, (fun b z => by cases z), hok, .of_eq hg⟩
  refine codeAny_mono ((F _).run callerA [] s H ⟨[.ref a], []⟩ [.ref a] [.ref a] H _ _ hr rfl e0 (hbind s (.ref a)) (.cons rfl .nil) (Ex.refl H) hsp) fun r s' h => ?_
  rcases r with er | fl
  · obtain ⟨_, _, _, _, _, _, _, _, _, _, _, _, H2, _, z⟩ := h
    exact z.elim
  · cases fl with
    | ret u =>
      obtain ⟨v, H', os, bare, un, hok', rv, H2, _, q⟩ := h
      subst q
      obtain rfl : u = Value.bool true := rv
      refine ⟨rfl, OldK.of_keep fun b o e => ?_, os, bare⟩
      rcases hO b with z | ⟨ob, xs, z⟩
      · exact un.keep b o e z (by intro q; cases q) (by simp)
      · have e1 := (hok b _ z).1
        have e2 := (hok' b _ (un.frzs b ob _ z)).1
        rw [e] at e1; cases e1
        exact e2
    | _ => exact h.elim
theorem end_call (KX : K.In s.heap) (hns : s.heap.Ns mainGlobals mg) (hb : s.heap.Ns builtinsNs mb) (hbb : ∀ x : Str, x ≠ "__name__" → mb x = bootBuiltins x) (hlim : s.heap.NoLimit) (hg : s.gens = #[])
    (ha : s.heap.get? a = some { cls := .type "list", data := .seq vs.toArray }) (hi : IntsAre vs ns) (hl : ns.length ≤ sizeLine) (hr : Room k callerA) (F : ∀ base : Heap, FnG P w K mg base k fa fd [x] sp) (hbind : ∀ (s : Shared) (u : Value), BindsTo s fd ⟨[u], []⟩ [(x, u)])
    (hsp : ∀ H : Hp, Only H → SqL K H a (ns.map V.int) → sp [.ref a] H (fun v _ => v = .bl true) fun _ _ _ => False) :
    codeAny (model P w) callerA (.call (.ref fa) ⟨[.ref a], []⟩) (fun r s' => r = .ok (.ret (.bool true)) ∧ OldK s.heap s'.heap ∧ s'.os = s.os ∧ AllBare s'.gens) s := by
  have rv := vals_ints hi
  have lv := hi.length
  cases q : K.lookup a with
  | some o =>
    have e := KX a o q
    rw [ha] at e; cases e
    refine end_from KX hns hb hbb hlim hg ha hr F hbind (fun _ => none) (fun _ => .inl rfl) (fun b u z => by cases z) (fun b z => absurd rfl z) (fun z => absurd rfl z) (hsp _ (fun _ => .inl rfl) (.inr ⟨_, vs.toArray, _, q, rfl, rfl, rfl, ?_, by simpa using rv⟩))
    rw [List.size_toArray, lv]
    exact hl
  | none =>
    let ob : Obj := { cls := .type "list", data := .seq vs.toArray }
    let H : Hp := fun b => if b = a then some (.frz ob (.lst (ns.map V.int))) else none
    have hO : Only H := fun b => by
      by_cases e : b = a
      · exact .inr ⟨ob, _, if_pos e⟩
      · exact .inl (if_neg e)
    have hA : ∀ b, H b ≠ none → b = a := fun b z => Classical.byContradiction fun e => z (if_neg e)
    refine end_from KX hns hb hbb hlim hg ha hr F hbind H hO (fun b u z => ?_) hA (fun _ => q) (hsp H hO (.inl (.inr ⟨ob, if_pos rfl⟩)))
    obtain rfl := hA b (by rw [z]; simp)
    have z1 : some (HO.frz ob (.lst (ns.map V.int))) = some u := (if_pos rfl).symm.trans z
    cases z1
    exact ⟨ha, by rw [List.length_map]; exact hl, vs, _, rv, ha⟩
/-- the goal that k_head leaves, from the law's promise (the script's bits told) -/
theorem walk_end {l : PySem.W.OpenLaw} {n k : Nat} {q : Program} {loose : List Str} {XP : (Str → Option Value) → Heap → Prop} {YP : World → Heap → Prop} {d : DefRec} {K : Params → PySem.W.Frag} {sp : World → Sp} {x : Str}
    (hn : l.most = some n) (hn2 : n ≤ sizeLine) (hdf : d.params.defaults = []) (hr : Room k callerA) (hY : ∀ (w : World) (h : Heap), YP w h → (K w.params).In h)
    (F : ∀ (w : World) (mg : Str → Option Value) (fa : Addr) (h : Heap), (K w.params).In h → h.Ns mainGlobals mg → mg d.name = some (.ref fa) →
      ∃ fd : FuncData, (∀ (s : Shared) (u : Value), BindsTo s fd ⟨[u], []⟩ [(x, u)]) ∧ ∀ base : Heap, FnG l.prog w (K w.params) mg base k fa fd [x] (sp w))
    (hsp : ∀ (w : World) (H : Hp) (a : Addr) (ns : List Int), ns.length ≤ n → (∀ z ∈ ns, Builtin.Int.intBits z ≤ 1048576) → Only H → SqL (K w.params) H a (ns.map V.int) → sp w [.ref a] H (fun v _ => v = .bl true) fun _ _ _ => False) :
    PySem.W.WalkO q loose XP YP l.row.toRowW d [] (fun f vs => PySem.call f vs) := by
  refine Att.attach_callB hn hdf fun w s0 s1 mg mb fa o pm cd doc a vs ns G Y ho hd hcd hmg hobj hints hlen hbits hg => ?_
  obtain ⟨fd, hb, hF⟩ := F w mg fa _ (hY w _ Y) G.T.g hmg
  exact end_call (hY w _ Y) G.T.g G.T.b G.T.builtins G.T.nolimit hg hobj hints (Nat.le_trans hlen hn2) hr hF hb fun H hO hS => hsp w H a ns hlen hbits hO hS
end
/-! ## what a value's class is -/
inductive Ty (H : Hp) : V → String → Prop
  | non : Ty H .non "NoneType"
  | bl (b : Bool) : Ty H (.bl b) "bool"
  | int (i : Int) : Ty H (.int i) "int"
  | str (s : Str) : Ty H (.str s) "str"
  | lst {p : Addr} {xs : List V} (h : H p = some (.lst xs)) : Ty H (.ref p) "list"
  | tup {p : Addr} {xs : List V} (h : H p = some (.tup xs)) : Ty H (.ref p) "tuple"
  | dct {p : Addr} {xs : List (Key × V)} (h : H p = some (.dK xs)) : Ty H (.ref p) "dict"
theorem Ty.ex {H H' : Hp} (x : Ex H H') : ∀ {v : V} {T : String}, Ty H v T → Ty H' v T
  | _, _, .non => .non
  | _, _, .bl b => .bl b
  | _, _, .int b => .int b
  | _, _, .str b => .str b
  | _, _, .lst h => .lst (x _ _ h)
  | _, _, .tup h => .tup (x _ _ h)
  | _, _, .dct h => .dct (x _ _ h)
theorem Ty.x {K : PySem.W.Frag} {H : Hp} : ∀ {v : V} {T : String}, Ty H v T → TyX K H v (.type T)
  | _, _, .non => .base .non
  | _, _, .bl b => .base (.bl b)
  | _, _, .int b => .base (.int b)
  | _, _, .str b => .base (.str b)
  | _, _, .lst h => .base (.lst h)
  | _, _, .tup h => .base (.tup h)
  | _, _, .dct h => .base (.dK h)
def tyIs (T U : String) : Bool := T == U || (T == "bool" && U == "int")
theorem kit_is {H : Hp} {v : V} {T U : String} (ht : Ty H v T) (hU : U = "int" ∨ U = "bool" ∨ U = "str" ∨ U = "list" ∨ U = "tuple" ∨ U = "dict") : kitB T U = some (tyIs T U) := by
  cases ht <;> rcases hU with rfl | rfl | rfl | rfl | rfl | rfl <;> decide +kernel
theorem ec_isT {X : Cx} {H : Hp} {v : V} {T U : String} (ht : Ty H v T) (hU : U = "int" ∨ U = "bool" ∨ U = "str" ∨ U = "list" ∨ U = "tuple" ∨ U = "dict") : EC X (.builtin "isinstance") [v, .ty U] H (.bl (tyIs T U)) :=
  ec_of call_isi fun _ x _ q => ⟨v, .ty U, _, _, _, rfl, .ty U, (ht.ex x).x, kit_ty (kit_is ht hU), q⟩
theorem ev_ty {X : Cx} {σ : St} {H : Hp} {pos : Pos} {n : Str} {T : String} (hm : X.mg n = none) (hv : bootBuiltins n = some (.type T)) (hg : Gl X n := by rfl) (hn : n ≠ "__name__" := by decide) (hd : (n == ("__debug__" : Str)) = false := by decide) : EV X (.Name n pos) σ H (.ty T) := ev_bltn hm hv rfl hg hn hd
def isInt : V → Bool
  | .int _ => true
  | _ => false
theorem Ty.int_is {H : Hp} {v : V} {T : String} (h : Ty H v T) : (tyIs T "int" && !tyIs T "bool") = isInt v := by cases h <;> rfl

/-! ## ends, forgetting -/
section
variable {X : Cx} {e : Expr} {sts : List Stmt} {σ : St} {H H1 H' : Hp} {D : Ends} {pos : Pos} {Q : VK} {v : V} {p q : Addr} {o u : HO}
theorem exput (x : Ex H H') (h : H' p = some o) : Ex (upd H p o) H' := fun a u ha => by
  by_cases e : a = p
  · subst e; rw [upd_same] at ha; rw [h]; exact ha
  · rw [upd_ne e] at ha; exact x a u ha
theorem hp_ne (n : H p = none) (h : H q = some u) : upd H p o q = some u := Ex.put n _ _ h

/-- all but one object is as it was -/
def ExB (p : Addr) (H H' : Hp) : Prop := ∀ a o, a ≠ p → H a = some o → H' a = some o
theorem ExB.refl : ExB p H H := fun _ _ _ h => h
theorem ExB.set {o : HO} (x : ExB p H H') : ExB p H (upd H' p o) := fun a u n h => by rw [upd_ne n]; exact x a u n h
theorem ExB.new {q : Addr} {o : HO} (x : ExB p H H') (n : H' q = none) : ExB p H (upd H' q o) := fun a u ne h => hp_ne n (x a u ne h)
theorem ExB.ex (x : ExB p H H') (h : H p = some o) : Ex H (upd H' p o) := fun a u ha => by
  by_cases e : a = p
  · subst e; rw [upd_same, ← h, ha]
  · rw [upd_ne e]; exact x a u e ha
/-! ## an object by what stays true of it -/
end
/-! ## sizes -/
theorem mul_okL {i j : Int} (h : -1000000000000000000 < i) (h2 : i < 1000000000000000000) : CMul i j := .inl ⟨by omega, by omega⟩
theorem mul_okR {i j : Int} (h : -1000000000000000000 < j) (h2 : j < 1000000000000000000) : CMul i j := .inr ⟨by omega, by omega⟩
theorem pow_ok {i j : Int} (h : 0 ≤ j) (h2 : j ≤ 1000000) (h3 : -1000000000000000000 < i) (h4 : i < 1000000000000000000) : CPow i j := ⟨h, h2, by omega⟩
theorem big_lt {i : Int} (h : -10000000000000000000000000000000000000000000000000000000000000000000000000000000000000000000000000000 ≤ i) (h2 : i ≤ 10000000000000000000000000000000000000000000000000000000000000000000000000000000000000000000000000000) : i.natAbs < 2 ^ 400 := Nat.lt_of_le_of_lt (show i.natAbs ≤ (10000000000000000000000000000000000000000000000000000000000000000000000000000000000000000000000000000:Int).toNat by show _ ≤ 10000000000000000000000000000000000000000000000000000000000000000000000000000000000000000000000000000; omega) (by decide +kernel)
theorem fdiv_ok {i j : Int} (h : 0 < j) (h2 : j ≤ 10000000000000000000000000000000000000000000000000000000000000000000000000000000000000000000000000000) : CDivW i j := wide_div (b := 400) h (big_lt (by omega) h2) (by decide) (by decide)
def DigOk (m : Int) : Prop := 0 < m ∧ m ≤ 10000000000000000000000000000000000000000000000000000000000000000000000000000000000000000000000000000
theorem dig_div {a m : Int} (h : DigOk m) : CDivP a m := ⟨h.1, PyProof.noPylong_of_log2 (fdiv_ok (i := a) h.1 h.2).2⟩
theorem shl_fits {i j : Int} (h : 0 ≤ j) (h2 : j ≤ 1000000) (h3 : -10000000000000000000000000000000000000000000000000000000000000000000000000000000000000000000000000000 ≤ i) (h4 : i ≤ 10000000000000000000000000000000000000000000000000000000000000000000000000000000000000000000000000000) : CShl i j := by
  obtain ⟨n, rfl⟩ := Int.eq_ofNat_of_zero_le h
  exact shl_ok (n := 400) (big_lt h3 h4) (by omega)
section
variable {X : Cx} {W : WX} {tg iter a : Expr} {body sts : List Stmt} {σ : St} {H : Hp} {D : Ends} {pos pos' p : Pos} {xs : List V} {q : Addr} {v : V}
theorem WG.mono {R R1 : St → Hp → Prop} (w : WG X tg v σ H R) (k : ∀ σ' H', R σ' H' → R1 σ' H') : WG X tg v σ H R1 := fun H1 x pins s u I r =>
  thn (w H1 x pins s u I r) fun _ s' ⟨σ', H2, I2, H3, x3, q⟩ => ⟨σ', H2, I2, H3, x3, k _ _ q⟩
end
/-- a def from what the top has written -/
def def_mk {h : Heap} {K : PySem.W.Frag} {mg : Str → Option Value} {n : Str} {st : Stmt} (ps : List Str) (X : K.In h) (G : h.Ns mainGlobals mg) {f : Addr} {oc : Value} {od an : Option Addr} {osl : Array (Option Value)} {kV doc pm cdv ct : Value} (a : PySem.W.nsIn K mainGlobals n = some (some (.ref f)))
    (l : K.lookup f = some ⟨oc, od, .func (PySem.W.fnOf n n (defArgs st) (defBody st) (defScope st) .none kV doc pm an cdv ct), osl⟩) (c : PySem.W.codeIn K cdv n = true) (k : PySem.W.keepIn K (.ref f) = true)
    (b : ∀ us : List Value, us.length = ps.length → bindArgs (PySem.W.fnOf n n (defArgs st) (defBody st) (defScope st) .none kV doc pm an cdv ct) ⟨us, []⟩ = pure (ps.zip us)) : Def K mg n st ps :=
  ⟨f, _, fun_mk (st := st) l c k, PySem.W.mg_of X G a, .all b⟩
/-- the law's def handed to walk_end -/
theorem law_end {l : PySem.W.OpenLaw} {w : World} {K : PySem.W.Frag} {mg : Str → Option Value} {n x : Str} {st : Stmt} {k : Nat} {fa : Addr} {sp : Sp} (d : Def K mg n st [x]) (hfa : mg n = some (.ref fa)) (hb : ∀ us : List Value, us.length = 1 → bindArgs d.fd ⟨us, []⟩ = pure ([x].zip us))
    (F : ∀ base : Heap, FnG l.prog w K mg base k d.f d.fd [x] sp) : ∃ fd : FuncData, (∀ (s : Shared) (u : Value), BindsTo s fd ⟨[u], []⟩ [(x, u)]) ∧ ∀ base : Heap, FnG l.prog w K mg base k fa fd [x] sp := by
  have e := hfa.symm.trans d.g
  cases e
  exact ⟨d.fd, fun s u => .of_eq (hb [u] rfl), F⟩
/-! ## comprehensions -/
theorem Cn.blk {X : Cx} {W : WX} {k : Nat} (c : Cn X W k) (s : Shared) (H : Hp) (scope : Scope) (C : Addr) (cl : List (Str × Addr)) (fp : List Addr) : Cn (X.blk s H scope (compEnvC scope cl C X.env) fp) (fun _ _ _ _ => False) k :=
  ⟨c.room, c.un, c.gd, fun u s' ⟨a, B, sI, pins, σ, H, cls, d, e, I, nb, up, sky, na, os, ag, w⟩ => w.elim, fun _ _ _ _ _ z _ => z⟩
section
variable {X : Cx} {tg elt c0 iter : Expr} {ifs : List Expr} {scope : Scope} {own : List (Str × Nat)} {σ : St} {H H1 : Hp} {Q : VK} {D : Ends} {pos spos py : Pos} {xs : List V} {q : Addr} {wi : TI} {tt : TT} {te : TE} {vs : List Nat}
/-- a block's turn as seen from within -/
def InB (X : Cx) (scope : Scope) (p : Cx → Prop) : Prop := ∀ (s : Shared) (H : Hp) (C : Addr) (cl : List (Str × Addr)) (fp : List Addr), p (X.blk s H scope (compEnvC scope cl C X.env) fp)
def gB (X : Cx) (scope : Scope) (tg : Expr) : TG := fun v σ H1 R1 => InB X scope fun Y => tWG Y tg v σ H1 R1
abbrev Stp := St → Hp → (Option V → Hp → Prop) → Prop
def StOk (st : Stp) (tt : TT) (te : TE) : Prop := ∀ σ H R, st σ H R → ∀ H1, Ex H H1 → ∀ G : Option V → Hp → Prop, (∀ oy H', (∃ H2, Ex H2 H' ∧ R oy H2) → G oy H') → tt σ H1 fun b H3 => if b = true then te σ H3 fun y H4 => G (some y) H4 else G none H3
/-- the list so far -/
def addTo (acc : List V) : Option V → List V
  | some y => acc ++ [y]
  | none => acc
/-- one turn, the heap of the turn forgotten -/
def Turn (X : Cx) (scope : Scope) (tg : Expr) (st : Stp) (vs : List Nat) (σ : St) (H : Hp) (x : V) (acc : List V) (Nx : List V → Prop) : Prop :=
  ∀ d, H d = none → InB X scope fun Y => WG Y tg x (wipe σ vs) (upd H d (.lst acc)) fun σ2 H2 => wipe σ2 vs = wipe σ vs ∧ st σ2 H2 fun oy H3 => Ex (upd H d (.lst acc)) H3 ∧ Nx (addTo acc oy)
theorem Turn.run {st : Stp} (ok : StOk st tt te) {x : V} {acc : List V} {Nx : List V → Prop} (t : Turn X scope tg st vs σ H x acc Nx) {d : Addr} (hd : H d = none) (hz : acc.length < 100000) {H4 : Hp} (x4 : Ex (upd H d (.lst acc)) H4) {G : Hp → Prop}
    (k : ∀ acc' H5, acc'.length ≤ acc.length + 1 → Nx acc' → Ex (upd H d (.lst acc')) H5 → G H5) :
    gB X scope tg x (wipe σ vs) H4 fun σ2 H2 => wipe σ2 vs = wipe σ vs ∧ tt σ2 H2 fun b H3 => if b = true then te σ2 H3 fun y H5 => ∃ acc, H5 d = some (.lst acc) ∧ acc.length < sizeLine ∧ G (upd H5 d (.lst (acc ++ [y]))) else G H3 := fun s H0 C cl fp =>
  (t d hd s H0 C cl fp).t x4 fun σ2 H2 ⟨H3, x3, e, w⟩ => ⟨e, by
    refine ok σ2 H3 _ w H2 x3 (fun oy H5 => match oy with | some y => ∃ acc, H5 d = some (.lst acc) ∧ acc.length < sizeLine ∧ G (upd H5 d (.lst (acc ++ [y]))) | none => G H5) fun oy H5 ⟨H6, x6, x7, n⟩ => ?_
    cases oy with
    | some y =>
      refine ⟨acc, (x7.trans x6) _ _ upd_same, Nat.lt_trans hz (by decide), k (acc ++ [y]) _ (by simp) n ?_⟩
      have z := (x7.trans x6).set d (.lst (acc ++ [y]))
      rw [upd_upd] at z
      exact z
    | none => exact k acc H5 (Nat.le_succ _) n (x7.trans x6)⟩
end
/-! ## repr of data -/
mutual
def fits : PyData → Prop
  | .none => True
  | .bool _ => True
  | .int i => i.natAbs < 10 ^ 120
  | .str x => ∀ c ∈ x.cps.toList, c < 4294967296
  | .list xs => fitsAll xs
  | .tuple xs => fitsAll xs
  | .dict _ => False
def fitsAll : List PyData → Prop
  | [] => True
  | x :: xs => fits x ∧ fitsAll xs
end
theorem int_shown {i : Int} (h : i.natAbs < 10 ^ 120) : (PyData.shown (.int i)).length ≤ 130 := by
  have e := int_text_length_le10 (k := 120) (by decide) h
  show (Str.ofString (toString i)).length ≤ 130
  rw [PySem.ofString_length]
  omega
theorem int_log {i : Int} (h : i.natAbs < 10 ^ 120) : i.natAbs.log2 < 1920 := by
  by_cases z : i.natAbs = 0
  · rw [z]; decide
  · exact (Nat.log2_lt z).mpr (Nat.lt_of_lt_of_le h (by decide +kernel))
mutual
theorem fits.short : ∀ d : PyData, fits d → d.leavesShort 130 = true ∧ d.showable = true ∧ d.hasDict = false
  | .none, _ => ⟨by simp only [PyData.leavesShort], by simp only [PyData.showable], by simp only [PyData.hasDict]⟩
  | .bool _, _ => ⟨by simp only [PyData.leavesShort], by simp only [PyData.showable], by simp only [PyData.hasDict]⟩
  | .int i, h => by
    have h : i.natAbs < 10 ^ 120 := by simpa only [fits] using h
    exact ⟨by simp only [PyData.leavesShort]; exact decide_eq_true (int_shown h), by simp only [PyData.showable]; exact decide_eq_true (int_log h), by simp only [PyData.hasDict]⟩
  | .str x, h => by
    have h : ∀ c ∈ x.cps.toList, c < 4294967296 := by simpa only [fits] using h
    exact ⟨by simp only [PyData.leavesShort, List.all_eq_true, decide_eq_true_eq]; exact h, by simp only [PyData.showable], by simp only [PyData.hasDict]⟩
  | .list xs, h => by
    have q := fitsAll.short xs (by simpa only [fits] using h)
    exact ⟨by simp only [PyData.leavesShort]; exact q.1, by simp only [PyData.showable]; exact q.2.1, by simp only [PyData.hasDict]; exact q.2.2⟩
  | .tuple xs, h => by
    have q := fitsAll.short xs (by simpa only [fits] using h)
    exact ⟨by simp only [PyData.leavesShort]; exact q.1, by simp only [PyData.showable]; exact q.2.1, by simp only [PyData.hasDict]; exact q.2.2⟩
  | .dict _, h => by simp only [fits] at h
theorem fitsAll.short : ∀ ds : List PyData, fitsAll ds → PyData.leavesShortAll 130 ds = true ∧ PyData.showableAll ds = true ∧ PyData.hasDictAll ds = false
  | [], _ => ⟨by simp only [PyData.leavesShortAll], by simp only [PyData.showableAll], by simp only [PyData.hasDictAll]⟩
  | d :: ds, h => by
    have h : fits d ∧ fitsAll ds := by simpa only [fitsAll] using h
    have q := fits.short d h.1
    have r := fitsAll.short ds h.2
    exact ⟨by simp only [PyData.leavesShortAll, Bool.and_eq_true]; exact ⟨q.1, r.1⟩, by simp only [PyData.showableAll, Bool.and_eq_true]; exact ⟨q.2.1, r.2.1⟩, by simp only [PyData.hasDictAll, Bool.or_eq_false_iff]; exact ⟨q.2.2, r.2.2⟩⟩
end
/-- data that repr can tell -/
structure RpOk (d : PyData) : Prop where
  f : fits d
  b : d.bulk ≤ 20000
  p : d.depth ≤ 60
theorem RpOk.len {d : PyData} (h : RpOk d) : d.shown.length ≤ 2640130 := by
  have := PyData.shown_le_bulk 130 (by decide) d (fits.short d h.f).1
  have b := h.b
  omega
mutual
theorem Dp.ex {K : PySem.W.Frag} {H H' : Hp} (x : Ex H H') : ∀ {v : V} {d : PyData}, Dp K H v d → Dp K H' v d
  | _, _, .non => .non
  | _, _, .bl b => .bl b
  | _, _, .int i => .int i
  | _, _, .str y => .str y
  | _, _, .lst h a => .lst (x.sqL h) (DpAll.ex x a)
  | _, _, .tup h a => .tup (x.sqT h) (DpAll.ex x a)
theorem DpAll.ex {K : PySem.W.Frag} {H H' : Hp} (x : Ex H H') : ∀ {vs : List V} {ds : List PyData}, DpAll K H vs ds → DpAll K H' vs ds
  | _, _, .nil => .nil
  | _, _, .cons h a => .cons (Dp.ex x h) (DpAll.ex x a)
end
section
variable {X : Cx} {W : WX} {k : Nat} {H : Hp} {v : V} {d : PyData}
def rRepr (K : PySem.W.Frag) : List V → Hp → VK → Prop := fun xs H Q => ∃ v d, xs = [v] ∧ Dp K H v d ∧ RpOk d ∧ Q (.str d.shown) H
theorem call_repr (c : Cn X W k) : CallR X (.builtin "repr") (rRepr X.K) := by
  intro pins s σ H xs us Q I r h
  obtain ⟨v, d, rfl, hd, ok, q⟩ := h
  obtain ⟨u, rfl, ru⟩ := r.one
  obtain ⟨as, rd⟩ := Dp.reads I d v u hd ru
  have z := fits.short d ok.f
  have len : d.shown.length ≤ sizeLine := Nat.le_trans ok.len (by decide)
  have room : X.A.units + (d.depth + 1) < cLine := by
    have := c.units
    have := ok.p
    omega
  have fin : ∀ h' t tk, (∀ b o, s.heap.get? b = some o → h'.get? b = some o) → EP X pins σ Q (.str d.shown t) { s with heap := h', toks := tk } := fun h' t tk hk =>
    ⟨.str d.shown, H, I.kept (fun b o e => hk b o e), ⟨t, rfl⟩, q⟩
  cases rd with
  | none => exact PySem.P.repr_of_none (fin s.heap _ _ fun _ _ e => e)
  | bool b => exact PySem.P.repr_of_bool (fin s.heap _ _ fun _ _ e => e)
  | int i t => exact PySem.P.repr_of_int (by simpa [PyData.showable] using z.2.1) (fin s.heap _ _ fun _ _ e => e)
  | str x t => exact PySem.P.repr_of_str (fin s.heap _ _ fun _ _ e => e) (by simpa only [PyData.shown] using len)
  | list h1 h2 h3 h4 => exact repr_of_reads' (.list h1 h2 h3 h4) z.2.1 (PyData.noDict_hsm z.2.2) c.gd room (fun _ _ e => e) fin len
  | tuple h1 h2 h3 h4 => exact repr_of_reads' (.tuple h1 h2 h3 h4) z.2.1 (PyData.noDict_hsm z.2.2) c.gd room (fun _ _ e => e) fin len
  | dict h1 h2 h3 h4 h5 => cases hd
theorem ec_repr (c : Cn X W k) (hd : Dp X.K H v d) (ok : RpOk d) : EC X (.builtin "repr") [v] H (.str d.shown) := ec_of (call_repr c) fun _ x _ q => ⟨v, d, rfl, Dp.ex x hd, ok, q⟩
end

/-! ## methods of lists, + -/
section
variable {X : Cx} {W : WX} {o e : Expr} {es : List Expr} {σ : St} {H : Hp} {Q : VK} {apos cpos : Pos} {l b : Addr} {xs zs : List V} {y : V}
theorem tyL {K : PySem.W.Frag} {H : Hp} {l : Addr} {xs : List V} (h : SqL K H l xs) : tyV K "list" (.ref l) H := .inl ⟨rfl, xs, h⟩
/-- o.append(e): the list may have changed while e was worked out -/
theorem we_append (ho : EV X o σ H (.ref l)) (hl : H l = some (.lst xs)) (he : WE X e σ H fun y H2 => ∃ ys, H2 l = some (.lst ys) ∧ ys.length ≤ 100000 ∧ Q .non (upd H2 l (.lst (ys ++ [y]))))
    (hbase : attributeBase o "append" X.env (eval o X.env) = eval o X.env := by rfl)
    (hfew : ((backTo cpos (starEach [e] X.env)).all (fun x => !x.1) && (backToKw cpos (keywordEach [] X.env)).all (fun x => x.1.isSome)
      && decide ([e].length + ([] : List Keyword).length + (if ([] : List Keyword).isEmpty then 0 else 1) < 30)) = true := by rfl)
    (hline : (apos.endLine == cpos.line) = true := by rfl) (hs : starEach [e] X.env = (false, eval e X.env) :: starEach [] X.env := by rfl) (hplain : (backTo cpos (starEach [] X.env)).any (·.1) = false := by rfl) :
    WE X (.Call (.Attribute o "append" apos) [e] [] cpos) σ H Q :=
  .of (pe_bm PySem.F.plainAttrs_list PySem.F.slot_list_append PySem.F.type_list_append mt_append pe_W (pa_cons pe_W pa_nil hs) hbase hfew hline hs hplain) fun H1 x =>
    (ho.we (Q := fun v H' => v = .ref l ∧ H' = H) ⟨rfl, rfl⟩).t x fun v H2 ⟨H3, x3, ev, eH⟩ => by
      subst ev; subst eH
      refine ⟨tyL (.inl (.inl (x3 _ _ hl))), he.t x3 fun y H4 ⟨H5, x5, ys, hy, hz, q⟩ => ⟨l, ys, y, rfl, rfl, x5 _ _ hy, Nat.lt_of_le_of_lt hz (by decide), _, x5.set l _, q⟩⟩
/-- o.extend(e) -/
theorem we_extend (ho : EV X o σ H (.ref l)) (hl : H l = some (.lst xs)) (he : WE X e σ H fun y H2 => ∃ b ys zs, y = .ref b ∧ H2 l = some (.lst ys) ∧ H2 b = some (.lst zs) ∧ ys.length + zs.length ≤ 1000000 ∧ Q .non (upd H2 l (.lst (ys ++ zs))))
    (hbase : attributeBase o "extend" X.env (eval o X.env) = eval o X.env := by rfl)
    (hfew : ((backTo cpos (starEach [e] X.env)).all (fun x => !x.1) && (backToKw cpos (keywordEach [] X.env)).all (fun x => x.1.isSome)
      && decide ([e].length + ([] : List Keyword).length + (if ([] : List Keyword).isEmpty then 0 else 1) < 30)) = true := by rfl)
    (hline : (apos.endLine == cpos.line) = true := by rfl) (hs : starEach [e] X.env = (false, eval e X.env) :: starEach [] X.env := by rfl) (hplain : (backTo cpos (starEach [] X.env)).any (·.1) = false := by rfl) :
    WE X (.Call (.Attribute o "extend" apos) [e] [] cpos) σ H Q :=
  .of (pe_bm PySem.F.plainAttrs_list PySem.F.slot_list_extend PySem.F.type_list_extend mt_extend pe_W (pa_cons pe_W pa_nil hs) hbase hfew hline hs hplain) fun H1 x =>
    (ho.we (Q := fun v H' => v = .ref l ∧ H' = H) ⟨rfl, rfl⟩).t x fun v H2 ⟨H3, x3, ev, eH⟩ => by
      subst ev; subst eH
      refine ⟨tyL (.inl (.inl (x3 _ _ hl))), he.t x3 fun y H4 ⟨H5, x5, b, ys, zs, ey, hy, hb, hz, q⟩ => ⟨l, b, ys, zs, rfl, by rw [ey], x5 _ _ hy, x5 _ _ hb, Nat.le_trans hz (by decide), _, x5.set l _, q⟩⟩
/-- the sum of two lists is a new list -/
theorem wo_cat (h1 : H l = some (.lst xs)) (h2 : H b = some (.lst zs)) (hz : xs.length + zs.length ≤ 1000000) (q : ∀ p, H p = none → Q (.ref p) (upd H p (.lst (xs ++ zs)))) : WO X (binaryOp .Add) (.ref l) (.ref b) H Q :=
  .of op_cat fun H1 x => ⟨l, b, xs, zs, rfl, rfl, x _ _ h1, x _ _ h2, Nat.le_trans hz (by decide), fun p hp => ⟨_, x.set p _, q p (x.free hp)⟩⟩
section
variable {D : Ends} {i j l : Nat} {x y z : Str} {a b c : Expr} {px py pz pt pos : Pos} {kt k2 pt2}
/-- a, b = x, y -/
theorem ws_par (hN : X.N.Nodup) (hi : X.N[i]? = some x) (hj : X.N[j]? = some y) (ha : WA X [a, b] σ H fun vs H1 => ∃ v w, vs = [v, w] ∧ D.nx ((σ.set i (some v)).set j (some w)) H1) (hij : i ≠ j := by decide) (hc : X.calm = true := by rfl)
    (hx : X.env.scope.names.lookup x = some .local := by rfl) (hy : X.env.scope.names.lookup y = some .local := by rfl)
    (hw : swappedStores [.Tuple [.Name x px, .Name y py] kt pt] (.Tuple [a, b] k2 pt2) X.env = pure (some [x, y]) := by rfl)
    (hs : swapsWithSole [.Tuple [.Name x px, .Name y py] kt pt] (.Tuple [a, b] k2 pt2) pos.line X.env = pure false := by rfl) :
    WS X (.Assign [.Tuple [.Name x px, .Name y py] kt pt] (.Tuple [a, b] k2 pt2) pos) D σ H :=
  .of (ps_par hc hN hi hj hij hx hy pa_W hw hs) fun H1 x1 => ha.t x1 fun vs H2 ⟨H3, x3, v, w, e, q⟩ => ⟨v, w, e, H3, x3, q⟩
end
end
/-! ## sum of bools -/
section
variable {prog : Program} {w : World} {A : Around} {R : Result → Shared → Prop} {it : Addr} {fp wr : List Addr} {n : Nat} {P : Nat → Value → Prop} {St : Nat → Heap → Prop}
end
section
variable {prog : Program} {w : World} {A : Around} {E : Value → Shared → Prop} {s : Shared} {l : Addr} {bs : List Bool} {Q : Value → Shared → Prop}
end
section
variable {X : Cx} {H : Hp} {p : Addr} {bs : List Bool}
end
/-! ## plain laws of numbers -/
theorem pow_mono {n m : Nat} (h : n ≤ m) : (2 : Int) ^ n ≤ 2 ^ m := by
  have := Nat.pow_le_pow_right (n := 2) (by decide) h
  have h2 : ((2 ^ n : Nat) : Int) ≤ ((2 ^ m : Nat) : Int) := by omega
  simpa [Int.natCast_pow] using h2
def VerOk (v : Int) : Prop := 0 ≤ v ∧ v < 1000000000000000000000000000000000000000000000000000000000000
/-- an int that is at least so much -/
def numAt (least : Int) : V → Bool
  | .int i => decide (least ≤ i)
  | _ => false
theorem bits_nat {i : Int} : ((Builtin.Int.intBits i : Nat) : Int).toNat = Builtin.Int.intBits i := Int.toNat_natCast _

/-- the lowest one of a number -/
def lowb (v : Int) : Int := Builtin.bitAnd v (-v)
theorem and_two (a b c d : Nat) (hb : b < 2) (hd : d < 2) : (2 * a + b) &&& (2 * c + d) = 2 * (a &&& c) + (b &&& d) := by
  have q : ((2 * a + b) &&& (2 * c + d)) / 2 = a &&& c := by
    rw [Nat.and_div_two, show (2 * a + b) / 2 = a by omega, show (2 * c + d) / 2 = c by omega]
  have r : ((2 * a + b) &&& (2 * c + d)) % 2 = b &&& d := by
    have := Nat.and_mod_two_pow (a := 2 * a + b) (b := 2 * c + d) (n := 1)
    rw [show (2 : Nat) ^ 1 = 2 from rfl] at this
    rw [this, show (2 * a + b) % 2 = b by omega, show (2 * c + d) % 2 = d by omega]
  omega
theorem and_pred (m : Nat) : ∀ j : Nat, (2 ^ j * (2 * m + 1)) &&& (2 ^ j * (2 * m + 1) - 1) = 2 ^ j * (2 * m)
  | 0 => by
    rw [Nat.pow_zero, Nat.one_mul, Nat.one_mul, Nat.add_sub_cancel]
    have := and_two m 1 m 0 (by decide) (by decide)
    rw [Nat.and_self] at this
    exact this
  | j + 1 => by
    have ih := and_pred m j
    have hp : 0 < 2 ^ j * (2 * m + 1) := Nat.mul_pos (Nat.pow_pos (by decide)) (Nat.succ_pos _)
    have e1 : 2 ^ (j + 1) * (2 * m + 1) = 2 * (2 ^ j * (2 * m + 1)) := by rw [Nat.pow_succ, Nat.mul_comm (2 ^ j) 2, Nat.mul_assoc]
    have e2 : 2 ^ (j + 1) * (2 * m) = 2 * (2 ^ j * (2 * m)) := by rw [Nat.pow_succ, Nat.mul_comm (2 ^ j) 2, Nat.mul_assoc]
    rw [e1, e2, ← ih]
    generalize 2 ^ j * (2 * m + 1) = u at hp ⊢
    have := and_two u 0 (u - 1) 1 (by decide) (by decide)
    rw [Nat.add_zero, show 2 * (u - 1) + 1 = 2 * u - 1 by omega] at this
    rw [this]
    rfl
theorem lowb_nat {n : Nat} (h : 0 < n) : lowb (n : Int) = (n : Int) - ((n &&& (n - 1) : Nat) : Int) := by
  unfold lowb Builtin.bitAnd
  have e1 : decide (0 ≤ (n : Int)) = true := by simp
  have e2 : decide (0 ≤ -(n : Int)) = false := by simp; omega
  rw [e1, e2]
  have e3 : (Builtin.bitNot (-(n : Int))).toNat = n - 1 := by unfold Builtin.bitNot; omega
  show (n : Int) - (((n : Int).toNat &&& (Builtin.bitNot (-(n : Int))).toNat : Nat) : Int) = _
  rw [e3, Int.toNat_natCast]
/-- the power of two that divides, while its double does not -/
theorem lowb_is {v : Int} {j : Nat} (h0 : 0 < v) (h1 : v % (2 ^ j : Int) = 0) (h2 : v % (2 * 2 ^ j : Int) ≠ 0) : lowb v = 2 ^ j := by
  obtain ⟨n, rfl⟩ := Int.eq_ofNat_of_zero_le (Int.le_of_lt h0)
  have h0 : 0 < n := by omega
  have p : (2 : Int) ^ j = ((2 ^ j : Nat) : Int) := by simp [Int.natCast_pow]
  rw [p] at h1 h2 ⊢
  have h1 : n % 2 ^ j = 0 := by have : ((n % 2 ^ j : Nat) : Int) = 0 := by rw [Int.natCast_emod]; exact h1
                                omega
  have h2 : n % (2 * 2 ^ j) ≠ 0 := fun z => h2 (by
    have : ((n % (2 * 2 ^ j) : Nat) : Int) = 0 := by rw [z]; rfl
    rw [Int.natCast_emod, Int.natCast_mul] at this
    exact this)
  obtain ⟨q, rfl⟩ := Nat.dvd_of_mod_eq_zero h1
  have ho : q % 2 = 1 := by
    rcases Nat.mod_two_eq_zero_or_one q with z | z
    · refine absurd ?_ h2
      obtain ⟨r, rfl⟩ := Nat.dvd_of_mod_eq_zero z
      rw [← Nat.mul_assoc, Nat.mul_comm (2 ^ j) 2, Nat.mul_mod_right]
    · exact z
  obtain ⟨m, rfl⟩ : ∃ m, q = 2 * m + 1 := ⟨q / 2, by omega⟩
  rw [lowb_nat h0, and_pred m j, Nat.mul_add, Nat.mul_one]
  omega
/-- the order of the versions -/
def precB (v o : Int) : Bool := if (decide (v = 0) || decide (o = 0)) = true then decide (v = 0) && decide (o > 0) else if lowb v = lowb o then decide (v > o) else decide (lowb v > lowb o)
theorem blk_fx {P : Program} {w : World} {K : PySem.W.Frag} {mg : Str → Option Value} {base : Heap} {N : List Str} {n : Str} {st : Stmt} {f : Addr} {cd : Value} {A : Around} {outer : List Env} {s : Shared} {H : Hp} {E : XK} {scope : Scope} {own : List (Str × Nat)} (h : blkC N (defScope st) scope own = true) : blkC (fx P w K mg base N n st f cd A outer s H E).N (fx P w K mg base N n st f cd A outer s H E).env.scope scope own = true := h
def Num (v : V) : Prop := ∃ n : Int, v = .int n ∧ 0 ≤ n ∧ n < 1000000000000000000000000000000000000000000000000000000000000000
theorem VerOk.num {v : Int} (h : VerOk v) : Num (.int v) := ⟨v, rfl, h.1, by have := h.2; omega⟩
theorem lowb_le {n : Int} (h : 0 < n) : 0 ≤ lowb n ∧ lowb n ≤ n := by
  obtain ⟨m, rfl⟩ := Int.eq_ofNat_of_zero_le (Int.le_of_lt h)
  rw [lowb_nat (by omega)]
  have := Nat.and_le_left (n := m) (m := m - 1)
  omega
theorem numAt_bad {a : Int} (h : 0 ≤ a) (z : numAt 0 (.int a) = false) : False := by
  simp [numAt] at z
  omega
/-! ## calls with keywords, defaults -/
section
variable {X : Cx} {W : WX} {e : Expr} {es : List Expr} {kws : List Keyword} {σ : St} {H H1 : Hp} {Q : VK} {QA QA1 : List V → Hp → Prop} {nm : Option Str} {kpos : Pos} {v : V} {vs : List V}
/-- the keywords' values -/
def WK (X : Cx) (kws : List Keyword) (σ : St) (H : Hp) (Q : List V → Hp → Prop) : Prop :=
  ∀ H1, Ex H H1 → ∀ pos pins s, Inv X pins σ H1 s → wpAny (model X.prog X.w) X.A (evalAll ((backToKw pos (keywordEach kws X.env)).map (·.2))) (AP X pins σ (upA Q)) X.xe s
def tWK (X : Cx) (kws : List Keyword) : TA := fun σ H1 Q1 => ∃ H Q, Ex H H1 ∧ WK X kws σ H Q ∧ ∀ v H2, upA Q v H2 → Q1 v H2
theorem pk_W : PK X kws (tWK X kws) := ⟨fun pos pins s σ H1 Q1 I ⟨H, Q, x, w, k⟩ => thn (w H1 x pos pins s I) fun u s' ⟨v, H2, I2, r, q⟩ => ⟨v, H2, I2, r, k v H2 q⟩⟩
theorem WK.of {t : TA} (h : PK X kws t) (q : ∀ H1, Ex H H1 → t σ H1 (upA QA)) : WK X kws σ H QA := fun H1 x pos pins s I => h.run pos pins s σ H1 _ I (q H1 x)
theorem WK.t (w : WK X kws σ H QA) (x : Ex H H1) (k : ∀ v H2, upA QA v H2 → QA1 v H2) : tWK X kws σ H1 QA1 := ⟨H, QA, x, w, k⟩
theorem wk_nil (q : QA [] H) : WK X [] σ H QA := .of pk_nil fun H1 x => ⟨H, x, q⟩
theorem wk_cons (h : WE X e σ H fun x H1 => WK X kws σ H1 fun xs H2 => QA (x :: xs) H2) : WK X (⟨nm, e, kpos⟩ :: kws) σ H QA :=
  .of (pk_cons pe_W pk_W) fun H1 x => h.t x fun v H2 ⟨H3, x3, w⟩ => w.t x3 fun _ _ q => q
def EK (X : Cx) (kws : List Keyword) (σ : St) (H : Hp) (vs : List V) : Prop := ∀ H1, Ex H H1 → ∀ Q : List V → Hp → Prop, Q vs H1 → WK X kws σ H1 Q
theorem EK.wk (h : EK X kws σ H vs) (q : QA vs H) : WK X kws σ H QA := h H (Ex.refl H) QA q
end
/-- a def called with m positional values and the keywords ks; gV: the values in the parameters' order -/
structure CalK (P : Program) (w : World) (K : PySem.W.Frag) (mg : Str → Option Value) (base : Heap) (n : Str) (k m : Nat) (ks : List Str) (gV : List V → List V → List V) (sp : Sp) : Prop where
  ex : ∃ (f : Addr) (fd : FuncData) (ps : List Str) (g : List Value → List Value → List Value), FnG P w K mg base k f fd ps sp ∧ mg n = some (.ref f) ∧ PySem.W.keepIn K (.ref f) = true ∧ KBn K fd ps m ks g gV
section
variable {X : Cx} {W : WX} {e : Expr} {es : List Expr} {kws : List Keyword} {σ : St} {H H1 : Hp} {Q : VK} {E : XK} {v : V} {vs zs : List V} {n : Str} {k j m : Nat} {f : Addr} {fd : FuncData} {ps ks : List Str} {sp : Sp} {us ws : List Value} {p pos : Pos} {pins : List (Addr × Obj)} {s : Shared} {g : List Value → List Value → List Value} {gV : List V → List V → List V}
end
section
variable {P : Program} {w : World} {K : PySem.W.Frag} {mg : Str → Option Value} {base : Heap} {n : Str} {st : Stmt} {ps N : List Str} {k m : Nat} {sp : Sp} {ks : List Str} {kws : List (Str × V)}
/-- the same def, called with keywords: how they bind is told of its own text -/
theorem Cal.kw (C : Cal P w K mg base n k ps [] sp) (d : Def K mg n st ps) (m : Nat) (ks : List Str) (g : {α : Type} → List α → List α → List α) (hrel : ∀ {vs zs : List V} {us ws : List Value}, Vals vs us → Vals zs ws → Vals (g vs zs) (g us ws))
    (hb : ∀ (kV doc pm : Value) (an : Option Addr) (cdv ct : Value) (us ws : List Value), us.length = m → ws.length = ks.length → bindArgs (PySem.W.fnOf n n (defArgs st) (defBody st) (defScope st) .none kV doc pm an cdv ct) ⟨us, ks.zip ws⟩ = pure (ps.zip (g us ws))) : CalK P w K mg base n k m ks g sp := by
  obtain ⟨f, fd, ds, F, hm, hk, _, _, oc, od, osl, lk⟩ := C.ex
  obtain ⟨oc2, od2, kV, doc, pm, an, cd, ct, osl2, e, lk2, _⟩ := d.F.ex
  have ef := hm.symm.trans d.g
  cases ef
  have e2 := lk.symm.trans lk2
  simp only [Option.some.injEq, Obj.mk.injEq, Data.func.injEq] at e2
  have e3 : fd = d.fd := e2.2.2.1
  refine ⟨d.f, fd, ps, g, F, hm, hk, ⟨fun s us ws X l1 l2 => ?_, fun r1 r2 => hrel r1 r2⟩⟩
  rw [e3, e]
  exact .of_eq (hb kV doc pm an cd ct us ws l1 l2)
/-- a def with keyword-only parameters that have defaults, no other defaults -/
structure DefK (K : PySem.W.Frag) (mg : Str → Option Value) (n : Str) (st : Stmt) (kws : List (Str × V)) : Type where
  f : Addr
  fd : FuncData
  F : FunD K n n (defArgs st) (defBody st) (defScope st) [] kws f fd
  g : mg n = some (.ref f)
/-- called with some of them -/
theorem DefK.calK {ps : List Str} (d : DefK K mg n st kws) (F : FnG P w K mg base k d.f d.fd ps sp) (m : Nat) (ks : List Str) (ms : List (Str × V)) (g : {α : Type} → List α → List α → List α → List α) (hk : kws ≠ []) (hms : ∀ q ∈ ms, q ∈ kws)
    (hrel : ∀ {vs mz zs : List V} {us mv ws : List Value}, Vals vs us → Vals mz mv → Vals zs ws → Vals (g vs mz zs) (g us mv ws))
    (h : ∀ (D : Addr) (doc pm : Value) (an : Option Addr) (cdv ct : Value) (us mv ws : List Value), us.length = m → mv.length = ms.length → ws.length = ks.length →
      KwChain D ((ms.map (·.1)).zip mv) (bindArgs (PySem.W.fnOf n n (defArgs st) (defBody st) (defScope st) .none (.ref D) doc pm an cdv ct) ⟨us, ks.zip ws⟩) (ps.zip (g us mv ws))) : CalK P w K mg base n k m ks (fun vs zs => g vs (ms.map (·.2)) zs) sp := by
  obtain ⟨mv, hb⟩ := d.F.kbinds0 (ps := ps) m ks ms g hk hms hrel h
  exact ⟨d.f, d.fd, ps, _, F, d.g, d.F.kp, hb⟩
end
/-! ## wide products -/
def Wide (i : Int) : Prop := -10000000000000000000000000000000000000000000000000000000000000000000000000000000000000000000000000000 ≤ i ∧ i ≤ 10000000000000000000000000000000000000000000000000000000000000000000000000000000000000000000000000000
theorem Wide.bits {i : Int} (h : Wide i) : Builtin.Int.intBits i ≤ 400 := PyProof.Rows.intBits_le (big_lt h.1 h.2)
/-! ## the strongest versions of a range, as the program finds them -/
def oddFrom (low power : Int) : Nat → Int → List Int
  | 0, _ => []
  | n + 1, last => if (decide (last > 0) && decide (last * power ≥ low)) = true then last * power :: oddFrom low power n (last - 2) else []
def lastOf (high power : Int) : Int := if decide (high / power % 2 = 0) = true then high / power - 1 else high / power
def strL (low high : Int) (n : Nat) : Nat → List Int → List Int
  | 0, f => f
  | k + 1, f => if f.length < n then strL low high n k (f ++ oddFrom low (2 ^ k) (n - f.length) (lastOf high (2 ^ k))) else f
def strongL (low high : Int) (n : Nat) : List Int := strL low high n (Builtin.Int.intBits high + 1) (if (decide (low = 0) && decide ((n : Int) > 0)) = true then [0] else [])
theorem oddFrom_len {low power : Int} : ∀ (n : Nat) (last : Int), (oddFrom low power n last).length ≤ n
  | 0, _ => Nat.le_refl _
  | n + 1, last => by
    unfold oddFrom
    split
    · rw [List.length_cons]
      exact Nat.succ_le_succ (oddFrom_len n _)
    · exact Nat.zero_le _
theorem oddFrom_mem {low power : Int} (hp : 0 < power) : ∀ (n : Nat) (last v : Int), v ∈ oddFrom low power n last → low ≤ v ∧ 0 < v ∧ v ≤ last * power
  | 0, _, _, h => nomatch h
  | n + 1, last, v, h => by
    unfold oddFrom at h
    split at h
    · rename_i hc
      simp only [Bool.and_eq_true, decide_eq_true_eq] at hc
      rcases List.mem_cons.mp h with rfl | h
      · exact ⟨hc.2, Int.mul_pos hc.1 hp, Int.le_refl _⟩
      · obtain ⟨a, b, c⟩ := oddFrom_mem hp n _ v h
        exact ⟨a, b, Int.le_trans c (Int.mul_le_mul_of_nonneg_right (by omega) (by omega))⟩
    · cases h
theorem lastOf_le {high power : Int} (hp : 0 < power) : lastOf high power * power ≤ high := by
  have h1 : high / power * power ≤ high := Int.ediv_mul_le _ (by omega)
  unfold lastOf
  split
  · rw [Int.sub_mul, Int.one_mul]
    omega
  · exact h1
theorem strL_ok {low high : Int} {n : Nat} (h0 : 0 ≤ high) : ∀ (k : Nat) (f : List Int), f.length ≤ n → (∀ v ∈ f, 0 ≤ v ∧ v ≤ high) → (strL low high n k f).length ≤ n ∧ ∀ v ∈ strL low high n k f, 0 ≤ v ∧ v ≤ high
  | 0, f, hl, hm => ⟨hl, hm⟩
  | k + 1, f, hl, hm => by
    unfold strL
    split
    · have hp : (0 : Int) < 2 ^ k := Int.pow_pos (by decide)
      refine strL_ok h0 k _ ?_ fun v hv => ?_
      · rw [List.length_append]
        have := oddFrom_len (low := low) (power := 2 ^ k) (n - f.length) (lastOf high (2 ^ k))
        omega
      · rcases List.mem_append.mp hv with hv | hv
        · exact hm v hv
        · obtain ⟨_, b, c⟩ := oddFrom_mem hp _ _ v hv
          exact ⟨by omega, Int.le_trans c (lastOf_le hp)⟩
    · exact ⟨hl, hm⟩
theorem strongL_ok {low high : Int} {n : Nat} (h0 : 0 ≤ high) : (strongL low high n).length ≤ n ∧ ∀ v ∈ strongL low high n, 0 ≤ v ∧ v ≤ high := by
  unfold strongL
  split
  · rename_i hc
    simp only [Bool.and_eq_true, decide_eq_true_eq] at hc
    exact strL_ok h0 _ _ (by simp; omega) (by simp [h0])
  · exact strL_ok h0 _ _ (Nat.zero_le _) (by simp)
/-! ## readings: what a text asks, no machine in sight -/
abbrev RX := St → Hp → VK → WX → Prop
abbrev RT := St → Hp → (Bool → Hp → Prop) → WX → Prop
abbrev RA := St → Hp → (List V → Hp → Prop) → WX → Prop
abbrev RS := Ends → WX → St → Hp → Prop
abbrev RG := V → St → Hp → (St → Hp → Prop) → WX → Prop
abbrev RGs := List V → St → Hp → (St → Hp → Prop) → WX → Prop
abbrev RO := V → V → Hp → VK → Prop
abbrev RC := List V → Hp → VK → Prop
structure SX (X : Cx) (j : Nat) (t : RX) (e : Expr) : Prop where
  run : ∀ {W : WX}, Cn X (upW W) j → ∀ {σ H Q}, t σ H Q W → WE X e σ H Q
structure SB (X : Cx) (j : Nat) (t : RT) (e : Expr) : Prop where
  run : ∀ {W : WX}, Cn X (upW W) j → ∀ {σ H Q}, t σ H Q W → WT X e σ H Q
structure SW (X : Cx) (j : Nat) (t : RT) (e : Expr) : Prop where
  run : ∀ {W : WX}, Cn X (upW W) j → ∀ {σ H Q}, t σ H Q W → WW X e σ H Q
structure SA (X : Cx) (j : Nat) (t : RA) (es : List Expr) : Prop where
  run : ∀ {W : WX}, Cn X (upW W) j → ∀ {σ H Q}, t σ H Q W → WA X es σ H Q
structure SK (X : Cx) (j : Nat) (t : RA) (es : List Keyword) : Prop where
  run : ∀ {W : WX}, Cn X (upW W) j → ∀ {σ H Q}, t σ H Q W → WK X es σ H Q
structure SS (X : Cx) (j : Nat) (t : RS) (st : Stmt) : Prop where
  run : ∀ {W : WX}, Cn X (upW W) j → Own X → ∀ {D σ H}, t D W σ H → WS X st D σ H
structure SSs (X : Cx) (j : Nat) (t : RS) (sts : List Stmt) : Prop where
  run : ∀ {W : WX}, Cn X (upW W) j → Own X → ∀ {D σ H}, t D W σ H → WSs X sts D σ H
structure SG (X : Cx) (j : Nat) (t : RG) (tg : Expr) : Prop where
  run : ∀ {W : WX}, Cn X (upW W) j → ∀ {v σ H R}, t v σ H R W → WG X tg v σ H R
structure SGs (X : Cx) (j : Nat) (t : RGs) (tg : List Expr) : Prop where
  run : ∀ {W : WX}, Cn X (upW W) j → ∀ {v σ H R}, t v σ H R W → WGs X tg v σ H R
def SO (X : Cx) (f : Value → Value → Sem Value) (r : RO) : Prop := ∀ x y H Q, r x y H Q → WO X f x y H Q
def SC (X : Cx) (fn : Value) (r : RC) : Prop := ∀ xs H Q, r xs H Q → WC X fn xs H Q
def fg (P : Hp → Prop) (H : Hp) : Prop := ∃ H', Ex H' H ∧ P H'
theorem fg.i {P : Hp → Prop} {H : Hp} (h : P H) : fg P H := ⟨H, Ex.refl H, h⟩
/-! ## slots -/
def slot : St → Nat → Option V
  | [], _ => none
  | o :: _, 0 => o
  | _ :: l, n + 1 => slot l n
theorem slot_get : ∀ {σ : St} {i : Nat} {v : V}, slot σ i = some v → σ[i]? = some (some v)
  | o :: _, 0, _, h => by simpa [slot] using h
  | _ :: l, n + 1, _, h => by simpa using slot_get (σ := l) h
def put : St → Nat → V → St
  | [], _, _ => []
  | _ :: l, 0, v => some v :: l
  | o :: l, n + 1, v => o :: put l n v
theorem put_set : ∀ {σ : St} {i : Nat} {v : V}, put σ i v = σ.set i (some v)
  | [], _, _ => rfl
  | _ :: _, 0, _ => rfl
  | o :: l, n + 1, v => by simp [put, put_set]
section
variable {X : Cx} {j : Nat} {W W1 : WX} {e a b c : Expr} {es rest : List Expr} {st : Stmt} {sts body : List Stmt} {σ : St} {H H1 : Hp} {Q : VK} {D : Ends} {pos p pos' : Pos} {t ta tb : RX} {tc td : RT} {r : RO} {n : Str} {i : Nat}
/-! ## names, constants -/
def rVar (i : Nat) : RX := fun σ H Q _ => match slot σ i with
  | some v => Q v H
  | none => False
theorem s_var {i : Nat} {n : Str} (hN : X.N[i]? = some n) (hv : Vis X.env.scope n) (hd : (n == ("__debug__" : Str)) = false := by decide) (hcd : (n == ("__classdict__" : Str)) = false := by decide) : SX X j (rVar i) (.Name n pos) := ⟨fun c σ H Q h => by
  unfold rVar at h
  cases e : slot σ i with
  | some v => rw [e] at h; exact EV.we (ev_var hN hv (slot_get e) hd hcd) h
  | none => rw [e] at h; exact h.elim⟩
def rC (v : V) : RX := fun _ H Q _ => Q v H
theorem SX.of_ev {v : V} (h : ∀ {σ H}, EV X e σ H v) : SX X j (rC v) e := ⟨fun _ _ _ _ q => h.we q⟩
theorem s_int {i : Int} {k} : SX X j (rC (.int i)) (.Constant (.int i) k pos) := .of_ev ev_int
theorem s_bl {i : Bool} {k} : SX X j (rC (.bl i)) (.Constant (.bool i) k pos) := .of_ev ev_bl
theorem s_non {k} : SX X j (rC .non) (.Constant .none k pos) := .of_ev ev_non
theorem s_str {i : Str} {k} : SX X j (rC (.str i)) (.Constant (.str i) k pos) := .of_ev ev_str
theorem s_glob {n : Str} {u : Value} {v : V} (hm : X.mg n = some u) (r : RelV v u) (hg : Gl X n := by rfl) (hd : (n == ("__debug__" : Str)) = false := by decide) : SX X j (rC v) (.Name n pos) := .of_ev (ev_glob hm r hg hd)
theorem s_globE {n : Str} {v : V} {α : Type} {f : α → Value} (hm : ∃ t, X.mg n = some (f t)) (r : ∀ t, RelV v (f t)) (hg : Gl X n := by rfl) (hd : (n == ("__debug__" : Str)) = false := by decide) : SX X j (rC v) (.Name n pos) := by
  obtain ⟨t, hm⟩ := hm
  exact .of_ev (ev_glob hm (r t) hg hd)
theorem s_ty {n : Str} {T : String} (hm : X.mg n = none) (hv : bootBuiltins n = some (.type T)) (hg : Gl X n := by rfl) (hn : n ≠ "__name__" := by decide) (hd : (n == ("__debug__" : Str)) = false := by decide) : SX X j (rC (.ty T)) (.Name n pos) := .of_ev (ev_ty hm hv hg hn hd)
/-! ## operators -/
def rBin (r : RO) (a b : RX) : RX := fun σ H Q W => a σ H (fun x H1 => b σ H1 (fun y H2 => r x y H2 Q) W) W
theorem s_bin {op : Operator} (ho : SO X (binaryOp op) r) (ha : SX X j ta a) (hb : SX X j tb b) : SX X j (rBin r ta tb) (.BinOp a op b pos) :=
  ⟨fun c _ _ _ h => we_bin ((ha.run c h).mono fun _ _ h => (hb.run c h).mono fun _ _ h => ho _ _ _ _ h)⟩
theorem s_cmp {op : CmpOp} (ho : SO X (compareOp op) r) (ha : SX X j ta a) (hb : SX X j tb b) (hm : behindInMarks op b = false := by first | exact nomark _ | with_unfolding_all rfl) : SX X j (rBin r ta tb) (.Compare a [op] [b] pos) :=
  ⟨fun c _ _ _ h => we_cmp ((ha.run c h).mono fun _ _ h => (hb.run c h).mono fun _ _ h => ho _ _ _ _ h) hm⟩
/-- of a bool -/
def ob (Q : Bool → Hp → Prop) : VK := fun x H => match x with
  | .bl k => Q k H
  | _ => False
theorem ob.get {QB : Bool → Hp → Prop} {x : V} (h : ob QB x H) : ∃ k, x = .bl k ∧ QB k H := by
  cases x <;> first | exact ⟨_, rfl, h⟩ | exact h.elim
def tCmp (r : RO) (a b : RX) : RT := fun σ H Q W => a σ H (fun x H1 => b σ H1 (fun y H2 => r x y H2 (ob Q)) W) W
theorem WO.mono {f : Value → Value → Sem Value} {x y : V} {Q1 : VK} (w : WO X f x y H Q) (k : ∀ v H, Q v H → Q1 v H) : WO X f x y H Q1 := fun H1 e pins s σ v u I rx ry => thn (w H1 e pins s σ v u I rx ry) fun u s' ⟨v, H2, I2, r, q⟩ => ⟨v, H2, I2, r, up.mono k q⟩
theorem b_cmp {op : CmpOp} (ho : SO X (compareOp op) r) (ha : SX X j ta a) (hb : SX X j tb b) (hm : behindInMarks op b = false := by first | exact nomark _ | with_unfolding_all rfl) : SB X j (tCmp r ta tb) (.Compare a [op] [b] pos) :=
  ⟨fun c _ _ _ h => wt_cmp ((ha.run c h).mono fun _ _ h => (hb.run c h).mono fun _ _ h => (ho _ _ _ _ h).mono fun _ _ h => h.get) hm⟩
/-- a op b op' c -/
def tCh (r r2 : RO) (a b c : RX) : RT := fun σ H Q W => a σ H (fun x H1 => b σ H1 (fun y H2 => r x y H2 (ob fun k H3 => (k = true → c σ H3 (fun z H4 => r2 y z H4 (ob Q)) W) ∧ (k = false → Q false H3))) W) W
theorem WE.tt (w : WE X e σ H Q) : tWE X e σ H (up Q) := ⟨H, Q, Ex.refl H, w, fun _ _ q => q⟩
theorem b_ch {op op' : CmpOp} {r2 : RO} {tcc : RX} (ho : SO X (compareOp op) r) (ho2 : SO X (compareOp op') r2) (ha : SX X j ta a) (hb : SX X j tb b) (hc : SX X j tcc c) (hm : lastMarks [op, op'] [b, c] = false := by with_unfolding_all rfl) : SB X j (tCh r r2 ta tb tcc) (.Compare a [op, op'] [b, c] pos) :=
  ⟨fun cn σ H Q h => .of (pt_chain op_W op_W pe_W pe_W pe_W hm) fun H2 e2 => (ha.run cn h).t e2 fun v H3 ⟨H3', x3, h⟩ => (hb.run cn h).t x3 fun u H4 ⟨H4', x4, h⟩ => (ho _ _ _ _ h).t x4 fun q H5 ⟨H5', x5, h⟩ => by
    obtain ⟨k, rfl, h1, h2⟩ := h.get
    refine ⟨k, rfl, ?_⟩
    cases k with
    | false => exact iteF ⟨false, rfl, _, x5, h2 rfl⟩
    | true => exact iteT ((hc.run cn (h1 rfl)).t x5 fun s H6 ⟨H6', x6, h⟩ => (ho2 _ _ _ _ h).t x6 fun z H7 ⟨H7', x7, h⟩ => by
        obtain ⟨k, rfl, h⟩ := h.get
        exact ⟨k, rfl, _, x7, h⟩)⟩
def rCh (r r2 : RO) (a b c : RX) : RX := fun σ H Q W => a σ H (fun x H1 => b σ H1 (fun y H2 => r x y H2 (ob fun k H3 => (k = true → c σ H3 (fun z H4 => r2 y z H4 Q) W) ∧ (k = false → Q (.bl false) H3))) W) W
theorem s_ch {op op' : CmpOp} {r2 : RO} {tcc : RX} (ho : SO X (compareOp op) r) (ho2 : SO X (compareOp op') r2) (ha : SX X j ta a) (hb : SX X j tb b) (hc : SX X j tcc c) (hm : lastMarks [op, op'] [b, c] = false := by with_unfolding_all rfl) : SX X j (rCh r r2 ta tb tcc) (.Compare a [op, op'] [b, c] pos) :=
  ⟨fun cn σ H Q h => .of (pe_chain op_W op_W pe_W pe_W pe_W hm) fun H2 e2 => (ha.run cn h).t e2 fun v H3 ⟨H3', x3, h⟩ => (hb.run cn h).t x3 fun u H4 ⟨H4', x4, h⟩ => (ho _ _ _ _ h).t x4 fun q H5 ⟨H5', x5, h⟩ => by
    obtain ⟨k, rfl, h1, h2⟩ := h.get
    refine ⟨k, rfl, ?_⟩
    cases k with
    | false => exact iteF ⟨_, x5, h2 rfl⟩
    | true => exact iteT ((hc.run cn (h1 rfl)).t x5 fun s H6 ⟨H6', x6, h⟩ => (ho2 _ _ _ _ h).t x6 fun z H7 h => h)⟩
def rNeg (a : RX) : RX := fun σ H Q W => a σ H (fun x H1 => match x with
  | .int i => Q (.int (-i)) H1
  | _ => False) W
theorem s_neg (ha : SX X j ta a) : SX X j (rNeg ta) (.UnaryOp .USub a pos) := ⟨fun c _ _ _ h => we_un ((ha.run c h).mono fun x H1 h => by
  cases x <;> first | exact ⟨_, un_neg, h⟩ | exact h.elim)⟩
/-! ## the operators by values -/
/-- of two ints, with what must hold of them -/
def oI (p : Int → Int → Prop) (f : Int → Int → V) : RO := fun x y H Q => match x, y with
  | .int i, .int j => p i j ∧ Q (f i j) H
  | _, _ => False
def oJ (f : Int → Int → V) : RO := fun x y H Q => match x, y with
  | .int i, .int j => Q (f i j) H
  | _, _ => False
theorem so_I {g : Value → Value → Sem Value} {p : Int → Int → Prop} {f : Int → Int → V} (h : ∀ {i j H}, p i j → EO X g (.int i) (.int j) H (f i j)) : SO X g (oI p f) := fun x y H Q q => by
  cases x <;> first | exact q.elim | skip
  cases y <;> first | exact q.elim | skip
  exact (h q.1).wo q.2
theorem so_J {g : Value → Value → Sem Value} {f : Int → Int → V} (h : ∀ {i j H}, EO X g (.int i) (.int j) H (f i j)) : SO X g (oJ f) := fun x y H Q q => by
  cases x <;> first | exact q.elim | skip
  cases y <;> first | exact q.elim | skip
  exact h.wo q
abbrev oAdd : RO := oJ fun i j => .int (i + j)
abbrev oSub : RO := oJ fun i j => .int (i - j)
abbrev oMul : RO := oI CMulX fun i j => .int (i * j)
abbrev oMod : RO := oI (fun _ j => 0 < j) fun i j => .int (i % j)
abbrev oDiv : RO := oI CDivW fun i j => .int (i / j)
abbrev oPow : RO := oI CPow fun i j => .int (i ^ j.toNat)
abbrev oShl : RO := oI CShl fun i j => .int (i * 2 ^ j.toNat)
abbrev oShr : RO := oI (fun _ j => 0 ≤ j) fun i j => .int (i / 2 ^ j.toNat)
abbrev oAnd : RO := oJ fun i j => .int (Builtin.bitAnd i j)
abbrev oLt : RO := oJ fun i j => .bl (decide (i < j))
abbrev oLe : RO := oJ fun i j => .bl (decide (i ≤ j))
abbrev oGt : RO := oJ fun i j => .bl (decide (j < i))
abbrev oGe : RO := oJ fun i j => .bl (decide (j ≤ i))
abbrev oEqI : RO := oJ fun i j => .bl (decide (i = j))
abbrev oNeI : RO := oJ fun i j => .bl (!decide (i = j))
theorem o_add : SO X (binaryOp .Add) oAdd := so_J eo_add
theorem o_sub : SO X (binaryOp .Sub) oSub := so_J eo_sub
theorem o_mul : SO X (binaryOp .Mult) oMul := so_I eo_mulX
theorem o_mod : SO X (binaryOp .Mod) oMod := so_I eo_mod
theorem o_div : SO X (binaryOp .FloorDiv) oDiv := so_I eo_fdiv
theorem o_pow : SO X (binaryOp .Pow) oPow := so_I eo_pow
theorem o_shl : SO X (binaryOp .LShift) oShl := so_I eo_shl
theorem o_and : SO X (binaryOp .BitAnd) oAnd := so_J eo_and
theorem o_lt : SO X (compareOp .Lt) oLt := so_J eo_lt
theorem o_le : SO X (compareOp .LtE) oLe := so_J eo_le
theorem o_gt : SO X (compareOp .Gt) oGt := so_J eo_gt
theorem o_ge : SO X (compareOp .GtE) oGe := so_J eo_ge
theorem o_eqI : SO X (compareOp .Eq) oEqI := so_J eo_eqI
theorem o_neI : SO X (compareOp .NotEq) oNeI := so_J eo_neI
theorem i_sub : SO X (inplaceOp .Sub) oSub := so_J ip_sub
theorem i_shr : SO X (inplaceOp .RShift) oShr := so_I ip_shr
/-- two texts -/
def oS (f : Str → Str → V) : RO := fun x y H Q => match x, y with
  | .str i, .str j => Q (f i j) H
  | _, _ => False
theorem so_S {g : Value → Value → Sem Value} {f : Str → Str → V} (h : ∀ {i j H}, EO X g (.str i) (.str j) H (f i j)) : SO X g (oS f) := fun x y H Q q => by
  cases x <;> first | exact q.elim | skip
  cases y <;> first | exact q.elim | skip
  exact h.wo q
abbrev oEqS : RO := oS fun i j => .bl (decide (i = j))
abbrev oNeS : RO := oS fun i j => .bl (!decide (i = j))
theorem o_eqS : SO X (compareOp .Eq) oEqS := so_S eo_eqS
theorem o_neS : SO X (compareOp .NotEq) oNeS := so_S eo_neS
def oIs : RO := fun x y H Q => y = .non ∧ Q (.bl (decide (x = .non))) H
theorem o_is : SO X (compareOp .Is) oIs := fun _ _ _ _ q => by
  obtain ⟨rfl, q⟩ := q
  exact eo_isN.wo q
/-- two lists -/
def oCat : RO := fun x y H Q => ∃ a b xs ys, x = .ref a ∧ y = .ref b ∧ H a = some (.lst xs) ∧ H b = some (.lst ys) ∧ xs.length + ys.length ≤ 1000000 ∧ ∀ p, H p = none → Q (.ref p) (upd H p (.lst (xs ++ ys)))
theorem o_cat : SO X (binaryOp .Add) oCat := fun _ _ _ _ ⟨_, _, _, _, e1, e2, h1, h2, hz, q⟩ => by subst e1; subst e2; exact wo_cat h1 h2 hz q
/-- membership: flat things -/
def oInL (K : PySem.W.Frag) : RO := fun x y H Q => ∃ q xs, y = .ref q ∧ SqL K H q xs ∧ flatV x = true ∧ xs.all flatV = true ∧ Q (.bl (inV x xs)) H
def oNiL (K : PySem.W.Frag) : RO := fun x y H Q => ∃ q xs, y = .ref q ∧ SqL K H q xs ∧ flatV x = true ∧ xs.all flatV = true ∧ Q (.bl (!inV x xs)) H
theorem o_inL : SO X (compareOp .In) (oInL X.K) := fun _ _ _ _ ⟨_, _, e, h, h1, h2, q⟩ => by subst e; exact (eo_inL h h1 h2).wo q
theorem o_niL : SO X (compareOp .NotIn) (oNiL X.K) := fun _ _ _ _ ⟨_, _, e, h, h1, h2, q⟩ => by subst e; exact (eo_ninL h h1 h2).wo q
/-! ## tests, and, or, not, if -/
def tV (t : RX) : RT := fun σ H Q W => t σ H (ob Q) W
theorem b_val (h : SX X j t e) (he : ∀ whole, isTrue e X.env whole = (do let v ← whole; standAt e.pos; holding [v] (truthy v)) := by intro _; rfl) : SB X j (tV t) e := ⟨fun c _ _ _ q => wt_val ((h.run c q).mono fun _ _ q => q.get) he⟩
def tNot (t : RT) : RT := fun σ H Q W => t σ H (fun k H1 => Q (!k) H1) W
theorem b_not (h : SB X j tc a) : SB X j (tNot tc) (.UnaryOp .Not a pos) := ⟨fun c _ _ _ q => wt_not (h.run c q)⟩
def tAnd (t u : RT) : RT := fun σ H Q W => t σ H (fun k H1 => (k = true → u σ H1 Q W) ∧ (k = false → Q false H1)) W
def tOr (t u : RT) : RT := fun σ H Q W => t σ H (fun k H1 => (k = true → Q true H1) ∧ (k = false → u σ H1 Q W)) W
theorem WT.mono {QB QB1 : Bool → Hp → Prop} (w : WT X e σ H QB) (k : ∀ v H, QB v H → QB1 v H) : WT X e σ H QB1 := fun H1 x pins s I => thn (w H1 x pins s I) fun u s' ⟨H2, I2, H3, x3, q⟩ => ⟨H2, I2, H3, x3, k _ _ q⟩
theorem w_and1 (h : SB X j tc a) : SW X j tc (.BoolOp .And [a] pos) := ⟨fun c _ _ _ q => ww_and1 (h.run c q)⟩
theorem w_or1 (h : SB X j tc a) : SW X j tc (.BoolOp .Or [a] pos) := ⟨fun c _ _ _ q => ww_or1 (h.run c q)⟩
theorem w_and (h : SB X j tc a) (h2 : SW X j td (.BoolOp .And (b :: rest) pos)) : SW X j (tAnd tc td) (.BoolOp .And (a :: b :: rest) pos) := ⟨fun c _ _ _ q => ww_and ((h.run c q).mono fun k H q => by
  cases k with
  | true => rw [if_pos rfl]; exact h2.run c (q.1 rfl)
  | false => exact iteF (q.2 rfl))⟩
theorem w_or (h : SB X j tc a) (h2 : SW X j td (.BoolOp .Or (b :: rest) pos)) : SW X j (tOr tc td) (.BoolOp .Or (a :: b :: rest) pos) := ⟨fun c _ _ _ q => ww_or ((h.run c q).mono fun k H q => by
  cases k with
  | true => exact iteT (q.1 rfl)
  | false => rw [if_neg (by decide)]; exact h2.run c (q.2 rfl))⟩
theorem b_ww (h : SW X j tc e) : SB X j tc e := ⟨fun c _ _ _ q => wt_ww (h.run c q)⟩
/-- as values (bools) -/
def rAnd (a b : RX) : RX := fun σ H Q W => a σ H (ob fun k H1 => (k = true → b σ H1 Q W) ∧ (k = false → Q (.bl false) H1)) W
def rOr (a b : RX) : RX := fun σ H Q W => a σ H (ob fun k H1 => (k = true → Q (.bl true) H1) ∧ (k = false → b σ H1 Q W)) W
theorem s_one {op} (h : SX X j t a) : SX X j t (.BoolOp op [a] pos) := ⟨fun c _ _ _ q => we_one (h.run c q)⟩
theorem s_and (h : SX X j ta a) (h2 : SX X j tb (.BoolOp .And (b :: rest) pos)) : SX X j (rAnd ta tb) (.BoolOp .And (a :: b :: rest) pos) := ⟨fun c _ _ _ q => we_andV ((h.run c q).mono fun x H q => by
  obtain ⟨k, rfl, q⟩ := q.get
  refine ⟨k, rfl, ?_⟩
  cases k with
  | true => rw [if_pos rfl]; exact h2.run c (q.1 rfl)
  | false => exact iteF (q.2 rfl))⟩
theorem s_or (h : SX X j ta a) (h2 : SX X j tb (.BoolOp .Or (b :: rest) pos)) : SX X j (rOr ta tb) (.BoolOp .Or (a :: b :: rest) pos) := ⟨fun c _ _ _ q => we_orV ((h.run c q).mono fun x H q => by
  obtain ⟨k, rfl, q⟩ := q.get
  refine ⟨k, rfl, ?_⟩
  cases k with
  | true => exact iteT (q.1 rfl)
  | false => rw [if_neg (by decide)]; exact h2.run c (q.2 rfl))⟩
def rNot (a : RX) : RX := fun σ H Q W => a σ H (ob fun k H1 => Q (.bl (!k)) H1) W
theorem s_not (h : SX X j ta a) : SX X j (rNot ta) (.UnaryOp .Not a pos) := ⟨fun c _ _ _ q => .of (pe_not pe_W) fun H2 x2 => (h.run c q).t x2 fun v H3 ⟨H4, x4, q⟩ => by
  obtain ⟨k, rfl, q⟩ := q.get
  exact ⟨k, rfl, H4, x4, q⟩⟩
def rIf (t : RT) (a b : RX) : RX := fun σ H Q W => t σ H (fun k H1 => (k = true → a σ H1 Q W) ∧ (k = false → b σ H1 Q W)) W
theorem s_if (h : SB X j tc c) (ha : SX X j ta a) (hb : SX X j tb b) : SX X j (rIf tc ta tb) (.IfExp c a b pos) := ⟨fun c _ _ _ q => we_if ((h.run c q).mono fun k H q => by
  cases k with
  | true => rw [if_pos rfl]; exact ha.run c (q.1 rfl)
  | false => rw [if_neg (by decide)]; exact hb.run c (q.2 rfl))⟩
/-! ## arguments, displays, subscripts -/
def aNil : RA := fun _ H Q _ => Q [] H
def aCons (e : RX) (r : RA) : RA := fun σ H Q W => e σ H (fun x H1 => r σ H1 (fun xs H2 => Q (x :: xs) H2) W) W
theorem WA.mono {QA QA1 : List V → Hp → Prop} (w : WA X es σ H QA) (k : ∀ v H, QA v H → QA1 v H) : WA X es σ H QA1 := fun H1 x pos pins s I => thn (w H1 x pos pins s I) fun u s' ⟨v, H2, I2, r, H3, x3, q⟩ => ⟨v, H2, I2, r, H3, x3, k _ _ q⟩
theorem a_nil : SA X j aNil [] := ⟨fun _ _ _ _ q => wa_nil q⟩
theorem a_cons {tr : RA} (h : SX X j t e) (hr : SA X j tr es) (hs : starEach (e :: es) X.env = (false, eval e X.env) :: starEach es X.env := by rfl) : SA X j (aCons t tr) (e :: es) := ⟨fun c _ _ _ q => wa_cons ((h.run c q).mono fun _ _ q => hr.run c q) hs⟩
def rLst (t : RA) : RX := fun σ H Q W => t σ H (fun xs H1 => xs.length ≤ 100000 ∧ ∀ p, H1 p = none → Q (.ref p) (upd H1 p (.lst xs))) W
def rTup (t : RA) : RX := fun σ H Q W => t σ H (fun xs H1 => xs.length ≤ 100000 ∧ ∀ p, H1 p = none → Q (.ref p) (upd H1 p (.tup xs))) W
theorem s_lst {tr : RA} (h : SA X j tr es) : SX X j (rLst tr) (.List es pos) := ⟨fun c _ _ _ q => we_lst ((h.run c q).mono fun _ _ q => ⟨small q.1, q.2⟩)⟩
theorem s_tup {tr : RA} {x1} (h : SA X j tr es) : SX X j (rTup tr) (.Tuple es x1 pos) := ⟨fun c _ _ _ q => we_tup ((h.run c q).mono fun _ _ q => ⟨small q.1, q.2⟩)⟩
def rDct0 : RX := fun _ H Q _ => ∀ p, H p = none → Q (.ref p) (upd H p (.dK []))
theorem s_dct0 : SX X j rDct0 (.Dict [] [] pos) := ⟨fun _ _ _ _ q => en_dict0.we q⟩
def oIxL (K : PySem.W.Frag) : RO := fun x y H Q => ∃ p xs i v, x = .ref p ∧ y = .int i ∧ SqL K H p xs ∧ atI xs i = some v ∧ Q v H
def oIxT (K : PySem.W.Frag) : RO := fun x y H Q => ∃ p xs i v, x = .ref p ∧ y = .int i ∧ SqT K H p xs ∧ atI xs i = some v ∧ Q v H
def SI (X : Cx) (r : RO) : Prop := ∃ r0, IxR X r0 ∧ ∀ x y H Q, r x y H Q → ∀ H3, Ex H H3 → r0 x y H3 (up Q)
theorem x_lst : SI X (oIxL X.K) := ⟨_, ix_list, fun _ _ H _ ⟨p, xs, i, v, e1, e2, h, hi, q⟩ H3 x => ⟨p, xs, i, v, e1, e2, x.sqL h, hi, H, x, q⟩⟩
theorem x_tup : SI X (oIxT X.K) := ⟨_, ix_tup, fun _ _ H _ ⟨p, xs, i, v, e1, e2, h, hi, q⟩ H3 x => ⟨p, xs, i, v, e1, e2, x.sqT h, hi, H, x, q⟩⟩
theorem s_ix (hr : SI X r) (ha : SX X j ta a) (hb : SX X j tb b) (hs : PlainIx b := by intro _ _; rfl) : SX X j (rBin r ta tb) (.Subscript a b pos) := by
  obtain ⟨r0, h0, k⟩ := hr
  exact ⟨fun c _ _ _ h => we_ix h0 ((ha.run c h).mono fun _ _ h => (hb.run c h).mono fun _ _ h => k _ _ _ _ h) hs⟩
/-! ## calls -/
def rCall (sp : Sp) (dvs : List V) (t : RA) : RX := fun σ H Q W => t σ H (fun vs H1 => sp (vs ++ dvs) H1 Q fun c d H' => W c d σ H') W
theorem run_fngU {vs dvs : List V} {k : Nat} {f : Addr} {fd : FuncData} {ps : List Str} {sp : Sp} {us ds : List Value} {pins : List (Addr × Obj)} {s : Shared} (F : FnG X.prog X.w X.K X.mg X.base k f fd ps sp) (c : Cn X (upW W) k) (hcm : X.calm = true) (hb : Binds X.K fd ps ds) (hd : Vals dvs ds) (I : Inv X pins σ H1 s) (x : Ex H H1) (r : Vals vs us) (h : sp (vs ++ dvs) H Q fun c d H' => W c d σ H') :
    wpAny (model X.prog X.w) X.A (call (.ref f) us) (EP X pins σ (up Q)) X.xe s := by
  have r2 := r.append hd
  have hl : (us ++ ds).length = ps.length := r2.length.symm.trans (F.len _ _ _ _ h)
  refine wpAny_call (codeAny_mono (F.run X.A X.stack s H1 ⟨us, []⟩ (us ++ ds) (vs ++ dvs) H Q _ (c.room hcm) c.gd I.env0 (hb s us I.kIn hl) r2 x h) fun res s' q => ?_)
  rcases res with er | fl
  · exact c.tk er s' (XE.of_call I (fun cl d H' ⟨H2, x2, q2⟩ => ⟨H2, x2, q2⟩) q)
  · cases fl with
    | ret u => exact I.after q
    | _ => exact q.elim
theorem s_call {sp : Sp} {k : Nat} {ps : List Str} {dvs : List V} {tr : RA} (C : Cal X.prog X.w X.K X.mg X.base n k ps dvs sp) (h : SA X j tr (e :: es)) (hkj : k ≤ j := by decide) (hcm : X.calm = true := by rfl) (hg : Gl X n := by rfl) (hdb : (n == ("__debug__" : Str)) = false := by decide)
    (he : starEach (e :: es) X.env = (false, eval e X.env) :: starEach es X.env := by rfl) (hpl : (backTo pos (starEach es X.env)).any (·.1) = false := by rfl) : SX X j (rCall sp dvs tr) (.Call (.Name n p) (e :: es) [] pos) := by
  obtain ⟨f, fd, ds, F, hm, hk, hb, hd, _⟩ := C.ex
  refine ⟨fun c σ H Q q H1 x pins s I => ?_⟩
  refine wpAny_Call_Name_kw (ld_glob I hg hm (PySem.W.callWith_K (h₀ := X.base) I.ok.mod.kin hk (thn (h.run c q H1 x pos pins s I) fun us s1 ⟨vs, H2, I2, r, H3, x3, q⟩ => ⟨I2.kIn, ?_⟩) he hpl) hdb)
  exact run_fngU F (c.mono hkj) hcm hb hd I2 x3 r q
theorem k_nil : SK X j aNil [] := ⟨fun _ _ _ _ q => wk_nil q⟩
theorem k_cons {kws : List Keyword} {nm : Option Str} {kpos : Pos} {tr : RA} (h : SX X j t e) (hr : SK X j tr kws) : SK X j (aCons t tr) (⟨nm, e, kpos⟩ :: kws) := ⟨fun c _ _ _ q => wk_cons ((h.run c q).mono fun _ _ q => hr.run c q)⟩
end
section
variable {X : Cx} {j : Nat} {W W1 : WX} {e a b c tg iter : Expr} {es rest tgs : List Expr} {st : Stmt} {sts body : List Stmt} {σ : St} {H H1 : Hp} {Q : VK} {D : Ends} {pos p pos' pos2 : Pos} {t ta tb : RX} {tc td : RT} {r : RO} {n : Str} {i : Nat} {zs zt : RS} {tr : RA} {rc : RC} {g g2 : RG} {gs : RGs}
/-! ## builtins by name -/
def rB (r : RC) (t : RA) : RX := fun σ H Q W => t σ H (fun vs H1 => r vs H1 Q) W
theorem s_bi {id : String} (hc : SC X (.builtin id) rc) (hm : X.mg n = none) (hv : bootBuiltins n = some (.builtin id)) (ha : SA X j tr (e :: es)) (hg : Gl X n := by rfl) (hn : n ≠ "__name__" := by decide) (hdb : (n == ("__debug__" : Str)) = false := by decide)
    (he : starEach (e :: es) X.env = (false, eval e X.env) :: starEach es X.env := by rfl) (hpl : (backTo pos (starEach es X.env)).any (·.1) = false := by rfl) : SX X j (rB rc tr) (.Call (.Name n p) (e :: es) [] pos) :=
  ⟨fun c _ _ _ q => we_callB hm hv ((ha.run c q).mono fun _ _ q => hc _ _ _ q) hg hn hdb he hpl⟩
theorem s_bt {T : String} (hc : SC X (.type T) rc) (hm : X.mg n = none) (hv : bootBuiltins n = some (.type T)) (ha : SA X j tr (e :: es)) (hg : Gl X n := by rfl) (hn : n ≠ "__name__" := by decide) (hdb : (n == ("__debug__" : Str)) = false := by decide)
    (he : starEach (e :: es) X.env = (false, eval e X.env) :: starEach es X.env := by rfl) (hpl : (backTo pos (starEach es X.env)).any (·.1) = false := by rfl) : SX X j (rB rc tr) (.Call (.Name n p) (e :: es) [] pos) :=
  ⟨fun c _ _ _ q => we_callTy hm hv ((ha.run c q).mono fun _ _ q => hc _ _ _ q) hg hn hdb he hpl⟩
/-- one value -/
def c1 (f : V → Hp → VK → Prop) : RC := fun vs H Q => match vs with
  | [x] => f x H Q
  | _ => False
def c2 (f : V → V → Hp → VK → Prop) : RC := fun vs H Q => match vs with
  | [x, y] => f x y H Q
  | _ => False
theorem sc1 {fn : Value} {f : V → Hp → VK → Prop} (h : ∀ x H Q, f x H Q → WC X fn [x] H Q) : SC X fn (c1 f) := fun xs H Q q => by
  cases xs with
  | nil => exact q.elim
  | cons x r => cases r with
    | nil => exact h _ _ _ q
    | cons _ _ => exact q.elim
theorem sc2 {fn : Value} {f : V → V → Hp → VK → Prop} (h : ∀ x y H Q, f x y H Q → WC X fn [x, y] H Q) : SC X fn (c2 f) := fun xs H Q q => by
  cases xs with
  | nil => exact q.elim
  | cons x r => cases r with
    | nil => exact q.elim
    | cons y r => cases r with
      | nil => exact h _ _ _ _ q
      | cons _ _ => exact q.elim
def vI (k : Int → Hp → VK → Prop) : V → Hp → VK → Prop := fun x H Q => match x with
  | .int i => k i H Q
  | _ => False
def cAbs : RC := c1 (vI fun i H Q => Q (.int (if i < 0 then -i else i)) H)
theorem c_abs : SC X (.builtin "abs") cAbs := sc1 fun x H Q q => by
  cases x <;> first | exact ec_abs.wc q | exact q.elim
def cMax : RC := c2 (oJ fun i j => .int (if j > i then j else i))
def cMin : RC := c2 (oJ fun i j => .int (if j < i then j else i))
theorem c_max (hc : X.calm = true := by rfl) : SC X (.builtin "max") cMax := sc2 fun x y H Q q => by
  cases x <;> first | exact q.elim | skip
  cases y <;> first | exact q.elim | skip
  exact (ec_max hc).wc q
theorem c_min (hc : X.calm = true := by rfl) : SC X (.builtin "min") cMin := sc2 fun x y H Q q => by
  cases x <;> first | exact q.elim | skip
  cases y <;> first | exact q.elim | skip
  exact (ec_min hc).wc q
def cLenL (K : PySem.W.Frag) : RC := c1 fun x H Q => ∃ p xs, x = .ref p ∧ SqL K H p xs ∧ Q (.int xs.length) H
def cLenT (K : PySem.W.Frag) : RC := c1 fun x H Q => ∃ p xs, x = .ref p ∧ SqT K H p xs ∧ Q (.int xs.length) H
theorem c_lenL : SC X (.builtin "len") (cLenL X.K) := sc1 fun x H Q ⟨p, xs, e, h, q⟩ => by subst e; exact (ec_lenL h).wc q
theorem c_lenT : SC X (.builtin "len") (cLenT X.K) := sc1 fun x H Q ⟨p, xs, e, h, q⟩ => by subst e; exact (ec_lenT h).wc q
def cAll (K : PySem.W.Frag) : RC := c1 fun x H Q => ∃ (p : Addr) (ns : List Bool), x = .ref p ∧ SqL K H p (ns.map V.bl) ∧ Q (.bl (ns.all id)) H
def cAny (K : PySem.W.Frag) : RC := c1 fun x H Q => ∃ (p : Addr) (ns : List Bool), x = .ref p ∧ SqL K H p (ns.map V.bl) ∧ Q (.bl (ns.any id)) H
theorem c_all (hc : X.calm = true := by rfl) : SC X (.builtin "all") (cAll X.K) := sc1 fun x H Q ⟨p, xs, e, h, q⟩ => by subst e; exact (ec_all h hc).wc q
theorem c_any (hc : X.calm = true := by rfl) : SC X (.builtin "any") (cAny X.K) := sc1 fun x H Q ⟨p, xs, e, h, q⟩ => by subst e; exact (ec_any h hc).wc q
def cDivmod : RC := c2 fun x y H Q => match x, y with
  | .int i, .int j => CDivP i j ∧ ∀ p, H p = none → Q (.ref p) (upd H p (.tup [.int (i / j), .int (i % j)]))
  | _, _ => False
theorem c_divmod : SC X (.builtin "divmod") cDivmod := sc2 fun x y H Q q => by
  cases x <;> first | exact q.elim | skip
  cases y <;> first | exact q.elim | skip
  exact (cn_divmod q.1).wc q.2
def cListL (K : PySem.W.Frag) : RC := c1 fun x H Q => ∃ p xs, x = .ref p ∧ SqL K H p xs ∧ ∀ q, H q = none → Q (.ref q) (upd H q (.lst xs))
def cTupL (K : PySem.W.Frag) : RC := c1 fun x H Q => ∃ p xs, x = .ref p ∧ SqL K H p xs ∧ ∀ q, H q = none → Q (.ref q) (upd H q (.tup xs))
theorem c_listL : SC X (.type "list") (cListL X.K) := sc1 fun x H Q ⟨p, xs, e, h, q⟩ => by subst e; exact (cn_listL h).wc q
theorem c_tupL : SC X (.type "tuple") (cTupL X.K) := sc1 fun x H Q ⟨p, xs, e, h, q⟩ => by subst e; exact (cn_tupleL h).wc q
def cIsT : RC := c2 fun x y H Q => ∃ T U, Ty H x T ∧ y = .ty U ∧ (U = "int" ∨ U = "bool" ∨ U = "str" ∨ U = "list" ∨ U = "tuple" ∨ U = "dict") ∧ Q (.bl (tyIs T U)) H
theorem c_isT : SC X (.builtin "isinstance") cIsT := sc2 fun x y H Q ⟨T, U, h, e, hU, q⟩ => by subst e; exact (ec_isT h hU).wc q
def cRepr (K : PySem.W.Frag) : RC := c1 fun x H Q => ∃ d, Dp K H x d ∧ RpOk d ∧ Q (.str d.shown) H
theorem s_repr (hm : X.mg "repr" = none) (ha : SA X j tr [e]) (hg : Gl X "repr" := by rfl) (he : starEach [e] X.env = (false, eval e X.env) :: starEach [] X.env := by rfl) (hpl : (backTo pos (starEach [] X.env)).any (·.1) = false := by rfl) : SX X j (rB (cRepr X.K) tr) (.Call (.Name "repr" p) [e] [] pos) :=
  ⟨fun c _ _ _ q => we_callB hm PyProof.Rows.boot_repr ((ha.run c q).mono fun vs H q => by
    cases vs with
    | nil => exact q.elim
    | cons x r => cases r with
      | nil =>
        obtain ⟨d, h, ok, q⟩ := q
        exact (ec_repr c h ok).wc q
      | cons _ _ => exact q.elim) hg (by decide) (by decide) he hpl⟩
/-- n.bit_length() -/
def rBits (t : RX) : RX := fun σ H Q W => t σ H (fun x H1 => vI (fun i H Q => Q (.int (Builtin.Int.intBits i : Nat)) H) x H1 Q) W
theorem s_bits {apos : Pos} (ha : SX X j ta a) (hbase : attributeBase a "bit_length" X.env (eval a X.env) = eval a X.env := by rfl) (hline : (apos.endLine == pos.line) = true := by rfl) : SX X j (rBits ta) (.Call (.Attribute a "bit_length" apos) [] [] pos) := ⟨fun c _ _ _ q =>
  .of (pe_bits pe_W hbase hline) fun H2 x2 => (ha.run c q).t x2 fun v H3 ⟨H4, x4, q⟩ => by
    cases v <;> first | exact ⟨_, rfl, H4, x4, q⟩ | exact q.elim⟩
/-! ## methods of lists -/
/-- the receiver is a name -/
def rAppV (i : Nat) (e : RX) : RX := fun σ H Q W => match slot σ i with
  | some (.ref l) => (∃ xs, H l = some (.lst xs)) ∧ e σ H (fun y H2 => ∃ ys, H2 l = some (.lst ys) ∧ ys.length ≤ 100000 ∧ Q .non (upd H2 l (.lst (ys ++ [y])))) W
  | _ => False
theorem s_appV {apos cpos : Pos} (hN : X.N[i]? = some n) (hv : Vis X.env.scope n) (he : SX X j t e) (hd : (n == ("__debug__" : Str)) = false := by decide) (hcd : (n == ("__classdict__" : Str)) = false := by decide)
    (hbase : attributeBase (.Name n p) "append" X.env (eval (.Name n p) X.env) = eval (.Name n p) X.env := by rfl)
    (hfew : ((backTo cpos (starEach [e] X.env)).all (fun x => !x.1) && (backToKw cpos (keywordEach [] X.env)).all (fun x => x.1.isSome)
      && decide ([e].length + ([] : List Keyword).length + (if ([] : List Keyword).isEmpty then 0 else 1) < 30)) = true := by rfl)
    (hline : (apos.endLine == cpos.line) = true := by rfl) (hs : starEach [e] X.env = (false, eval e X.env) :: starEach [] X.env := by rfl) (hplain : (backTo cpos (starEach [] X.env)).any (·.1) = false := by rfl) :
    SX X j (rAppV i t) (.Call (.Attribute (.Name n p) "append" apos) [e] [] cpos) := ⟨fun c _ _ _ q => by
  unfold rAppV at q
  split at q
  · rename_i l h
    obtain ⟨⟨xs, hl⟩, q⟩ := q
    exact we_append (ev_var hN hv (slot_get h) hd hcd) hl (he.run c q) hbase hfew hline hs hplain
  · exact q.elim⟩
def rExtV (i : Nat) (e : RX) : RX := fun σ H Q W => match slot σ i with
  | some (.ref l) => (∃ xs, H l = some (.lst xs)) ∧ e σ H (fun y H2 => ∃ b ys zs, y = .ref b ∧ H2 l = some (.lst ys) ∧ H2 b = some (.lst zs) ∧ ys.length + zs.length ≤ 1000000 ∧ Q .non (upd H2 l (.lst (ys ++ zs)))) W
  | _ => False
theorem s_extV {apos cpos : Pos} (hN : X.N[i]? = some n) (hv : Vis X.env.scope n) (he : SX X j t e) (hd : (n == ("__debug__" : Str)) = false := by decide) (hcd : (n == ("__classdict__" : Str)) = false := by decide)
    (hbase : attributeBase (.Name n p) "extend" X.env (eval (.Name n p) X.env) = eval (.Name n p) X.env := by rfl)
    (hfew : ((backTo cpos (starEach [e] X.env)).all (fun x => !x.1) && (backToKw cpos (keywordEach [] X.env)).all (fun x => x.1.isSome)
      && decide ([e].length + ([] : List Keyword).length + (if ([] : List Keyword).isEmpty then 0 else 1) < 30)) = true := by rfl)
    (hline : (apos.endLine == cpos.line) = true := by rfl) (hs : starEach [e] X.env = (false, eval e X.env) :: starEach [] X.env := by rfl) (hplain : (backTo cpos (starEach [] X.env)).any (·.1) = false := by rfl) :
    SX X j (rExtV i t) (.Call (.Attribute (.Name n p) "extend" apos) [e] [] cpos) := ⟨fun c _ _ _ q => by
  unfold rExtV at q
  split at q
  · rename_i l h
    obtain ⟨⟨xs, hl⟩, q⟩ := q
    exact we_extend (ev_var hN hv (slot_get h) hd hcd) hl (he.run c q) hbase hfew hline hs hplain
  · exact q.elim⟩
/-! ## statements -/
def zNil : RS := fun D _ σ H => D.nx σ H
def zCons (s r : RS) : RS := fun D W σ H => s { D with nx := fun σ' H' => r D W σ' H' } W σ H
theorem WS.nx {D : Ends} {M : St → Hp → Prop} (h : WS X st { D with nx := M } σ H) (k : ∀ σ' H', M σ' H' → D.nx σ' H') : WS X st D σ H := WS.le h (.i (fun _ _ m => k _ _ m) (fun _ _ q => q) (fun _ _ q => q) fun _ _ q => q)
theorem z_nil : SSs X j zNil [] := ⟨fun _ _ _ _ _ q => wss_nil q⟩
theorem z_cons (h : SS X j zs st) (hr : SSs X j zt sts) : SSs X j (zCons zs zt) (st :: sts) := ⟨fun {W} c o D σ H q => wss_cons (WS.nx (h.run c o q) fun _ _ q => hr.run c o q)⟩
theorem z_one (h : SS X j zs st) : SSs X j zs [st] := ⟨fun c o _ _ _ q => wss_one (h.run c o q)⟩
def zExpr (e : RX) : RS := fun D W σ H => e σ H (fun _ H1 => D.nx σ H1) W
theorem z_expr (h : SX X j t e) (hs : swapsWith e none pos.line X.env = pure false := by rfl) : SS X j (zExpr t) (.Expr e pos) := ⟨fun c _ _ _ _ q => ws_expr (h.run c q) hs⟩
def zRet (e : RX) : RS := fun D W σ H => e σ H D.rt W
theorem z_ret (h : SX X j t e) : SS X j (zRet t) (.Return (some e) pos) := ⟨fun c _ _ _ _ q => ws_ret (h.run c q)⟩
def zIf (t : RT) (a b : RS) : RS := fun D W σ H => t σ H (fun k H1 => (k = true → a D W σ H1) ∧ (k = false → b D W σ H1)) W
theorem z_if (h : SB X j tc c) (ha : SSs X j zs sts) (hb : SSs X j zt body) : SS X j (zIf tc zs zt) (.If c sts body pos) := ⟨fun cn o _ _ _ q => ws_if ((h.run cn q).mono fun k H q => by
  cases k with
  | true => rw [if_pos rfl]; exact ha.run cn o (q.1 rfl)
  | false => rw [if_neg (by decide)]; exact hb.run cn o (q.2 rfl))⟩
def zSet (i : Nat) (e : RX) : RS := fun D W σ H => e σ H (fun x H1 => D.nx (put σ i x) H1) W
theorem z_set (hN : X.N.Nodup) (hi : X.N[i]? = some n) (h : SX X j t e) (hx : Loc X.env.scope n := by first | exact .inl rfl | exact .inr rfl) (hs : swapsWith e (some (.Name n pos')) pos.line X.env = pure false := by rfl)
    (hf : X.fn n = true ∨ X.env.scope.names.lookup n = some .local := by first | exact .inl rfl | exact .inr rfl | assumption) : SS X j (zSet i t) (.Assign [.Name n pos'] e pos) :=
  ⟨fun c _ _ _ _ q => ws_set hN hi ((h.run c q).mono fun _ _ q => by rw [← put_set]; exact q) hx hs hf⟩
def zAug (i : Nat) (r : RO) (e : RX) : RS := fun D W σ H => match slot σ i with
  | some x => e σ H (fun y H1 => r x y H1 fun z H2 => D.nx (put σ i z) H2) W
  | none => False
theorem z_aug {op : Operator} (ho : SO X (inplaceOp op) r) (hN : X.N.Nodup) (hi : X.N[i]? = some n) (h : SX X j t e) (hl : Loc X.env.scope n := by first | exact .inl rfl | exact .inr rfl)
    (hf : X.fn n = true ∨ X.env.scope.names.lookup n = some .local := by first | exact .inl rfl | exact .inr rfl | assumption) : SS X j (zAug i r t) (.AugAssign (.Name n pos') op e pos) := ⟨fun c _ _ _ _ q => by
  unfold zAug at q
  split at q
  · rename_i x hs
    exact ws_aug hN hi (slot_get hs) ((h.run c q).mono fun _ _ q => ho _ _ _ _ (by simpa only [put_set] using q)) hl hf
  · exact q.elim⟩
/-! ## targets -/
def gName (i : Nat) : RG := fun v σ H R _ => R (put σ i v) H
theorem g_name (hN : X.N.Nodup) (hi : X.N[i]? = some n) (hx : Loc X.env.scope n := by first | exact .inl rfl | exact .inr rfl) (hf : X.fn n = true ∨ X.env.scope.names.lookup n = some .local := by first | exact .inl rfl | exact .inr rfl | assumption) : SG X j (gName i) (.Name n pos) :=
  ⟨fun c _ _ _ _ q => wg_name hN hi (by rw [← put_set]; exact q) hx hf⟩
def gNil : RGs := fun vs σ H R _ => vs = [] ∧ R σ H
def gCons (g : RG) (r : RGs) : RGs := fun vs σ H R W => match vs with
  | v :: vs => g v σ H (fun σ1 H1 => r vs σ1 H1 R W) W
  | [] => False
theorem gs_nil : SGs X j gNil [] := ⟨fun c _ _ _ _ q => by
  obtain ⟨rfl, q⟩ := q
  exact wgs_nil q⟩
theorem gs_cons (h : SG X j g tg) (hr : SGs X j gs tgs) (hs : (assignEach (tg :: tgs) X.env).map (·.2) = assign tg X.env :: (assignEach tgs X.env).map (·.2) := by rfl) : SGs X j (gCons g gs) (tg :: tgs) := ⟨fun c v _ _ _ q => by
  cases v with
  | nil => exact q.elim
  | cons v vs => exact wgs_cons ((h.run c q).mono fun _ _ q => hr.run c q) hs⟩
def gTup (K : PySem.W.Frag) (n : Nat) (g : RGs) : RG := fun v σ H R W => ∃ t vs, v = .ref t ∧ (SqT K H t vs ∨ SqL K H t vs) ∧ vs.length = n ∧ g vs σ H R W
theorem g_tup {k : Nat} (h : SGs X j gs tgs) (hc : X.calm = true := by rfl) (hst : (assignEach tgs X.env).findIdx? (·.1) = none := by rfl) : SG X j (gTup X.K (assignEach tgs X.env).length gs) (.Tuple tgs k pos) := ⟨fun c _ _ _ _ ⟨t, vs, e, hs, hl, q⟩ => by
  subst e
  rcases hs with hs | hs
  · exact wg_tup hs (h.run c q) hc hl.symm hst
  · exact wg_lst hs (h.run c q) hc hl.symm hst⟩
def zAsg (e : RX) (g : RG) : RS := fun D W σ H => e σ H (fun x H1 => g x σ H1 D.nx W) W
theorem z_asg (h : SX X j t e) (hg : SG X j g tg) (hs : swapsWithSole [tg] e pos.line X.env = pure false := by rfl) (hw : swappedStores [tg] e X.env = pure none := by rfl)
    (h1 : (assignEach [tg] X.env).map (·.2) = [assign tg X.env] := by rfl) : SS X j (zAsg t g) (.Assign [tg] e pos) := ⟨fun c _ _ _ _ q => ws_asg ((h.run c q).mono fun _ _ q => hg.run c q) hs hw h1⟩
/-- a, b = x, y -/
def zPar (i l : Nat) (t : RA) : RS := fun D W σ H => t σ H (fun vs H1 => match vs with
  | [v, w] => D.nx (put (put σ i v) l w) H1
  | _ => False) W
theorem z_par {l : Nat} {y : Str} {px py pt pt2 : Pos} {kt k2} (hN : X.N.Nodup) (hi : X.N[i]? = some n) (hj : X.N[l]? = some y) (ha : SA X j tr [a, b]) (hij : i ≠ l := by decide) (hc : X.calm = true := by rfl)
    (hx : X.env.scope.names.lookup n = some .local := by rfl) (hy : X.env.scope.names.lookup y = some .local := by rfl)
    (hw : swappedStores [.Tuple [.Name n px, .Name y py] kt pt] (.Tuple [a, b] k2 pt2) X.env = pure (some [n, y]) := by rfl)
    (hs : swapsWithSole [.Tuple [.Name n px, .Name y py] kt pt] (.Tuple [a, b] k2 pt2) pos.line X.env = pure false := by rfl) :
    SS X j (zPar i l tr) (.Assign [.Tuple [.Name n px, .Name y py] kt pt] (.Tuple [a, b] k2 pt2) pos) := ⟨fun c _ _ _ _ q => ws_par hN hi hj ((ha.run c q).mono fun vs H q => by
      match vs, q with
      | [v, w], q => exact ⟨v, w, rfl, by simpa only [put_set] using q⟩) hij hc hx hy hw hs⟩
/-- o[i] = v -/
def gIxL (o i : RX) : RG := fun v σ H R W => o σ H (fun x H1 => i σ H1 (fun y H2 => ∃ q xs i k, x = .ref q ∧ y = .int i ∧ H2 q = some (.lst xs) ∧ ixN xs.length i = some k ∧ R σ (upd H2 q (.lst (xs.set k v)))) W) W
theorem g_ixL (ho : SX X j ta a) (hi : SX X j tb b) (ha : ∀ v, assign (.Subscript a b pos) X.env v = (do
      let ov ← holding [v] (eval a X.env)
      let iv ← holding [v, ov] (eval b X.env)
      standAt pos
      holding [v, ov, iv] (setItem ov iv v)
      release [v, ov, iv] []) := by intro _; rfl) : SG X j (gIxL ta tb) (.Subscript a b pos) := ⟨fun c v _ _ _ q =>
  .of (pg_sub pe_W pe_W set_list ha) fun H1 x => (ho.run c q).t x fun o H2 ⟨H2', x2, q⟩ => (hi.run c q).t x2 fun y H3 ⟨H3', x3, p, xs, i, k, e1, e2, h1, h2, q⟩ => ⟨p, xs, i, k, e1, e2, x3 _ _ h1, h2, _, x3.set p _, q⟩⟩
/-! ## raise -/
def zRaise (C : Addr) (t : RA) : RS := fun D W σ H => t σ H (fun vs H1 => vs.length ≤ 1000 ∧ W (.ref C) none σ H1) W
theorem z_raise {C : Addr} (T : ErrC X.K X.mg n C) (ha : SA X j tr (e :: es)) (hg : Gl X n := by rfl) (hdb : (n == ("__debug__" : Str)) = false := by decide)
    (he : starEach (e :: es) X.env = (false, eval e X.env) :: starEach es X.env := by rfl) (hpl : (backTo pos (starEach es X.env)).any (·.1) = false := by rfl) (hc : X.calm = true := by rfl) : SS X j (zRaise C tr) (.Raise (some (.Call (.Name n p) (e :: es) [] pos)) none pos') :=
  ⟨fun c _ _ _ _ q => ws_raise c (wm_err T ((ha.run c q).mono fun _ _ q => ⟨q.1, ⟨_, Ex.refl _, q.2⟩⟩) hg hdb he hpl) hc⟩
/-! ## loops -/
structure ItOk (J : It) (n : Nat) (G : Hp → Prop) (Y : Nat → Hp → VK → Prop) : Prop where
  ex : ∃ G0 Y0, Walk J n G0 Y0 ∧ (∀ H H1, G H → Ex H H1 → G0 H1) ∧ ∀ i H H1 x H1' K, i < n → Ex H H1 → Y0 i H1 x H1' → Y i H K → up K x H1'
abbrev RI := St → Hp → (Nat → (Hp → Prop) → (Nat → Hp → VK → Prop) → Hp → Prop) → WX → Prop
structure SIt (X : Cx) (j : Nat) (t : RI) (tg iter : Expr) : Prop where
  ex : ∃ wi, PI X tg iter wi ∧ ∀ {W}, Cn X (upW W) j → ∀ {σ H R}, t σ H R W → ∀ H1, Ex H H1 → ∀ F : It → Hp → Prop, (∀ J H2 H' n G Y, Ex H' H2 → ItOk J n G Y → R n G Y H' → F J H2) → wi σ H1 F
def yAt (xs : List V) : Nat → Hp → VK → Prop := fun i H k => ∀ x, xs[i]? = some x → k x H
theorem ItOk.at {J : It} {n : Nat} {G : Hp → Prop} {xs : List V} (w : Walk J n G (YAt xs)) (hG : ∀ H H1, G H → Ex H H1 → G H1) : ItOk J n G (yAt xs) := ⟨_, _, w, hG, fun i H H1 x H1' K hi e y q => by
  obtain ⟨rfl, y⟩ := y
  exact ⟨H, e, q x y⟩⟩
def iL (K : PySem.W.Frag) (e : RX) : RI := fun σ H R W => e σ H (fun x H1 => ∃ a xs, x = .ref a ∧ SqL K H1 a xs ∧ R xs.length (fun H => SqL K H a xs) (yAt xs) H1) W
theorem i_L (h : SX X j t iter) : SIt X j (iL X.K t) tg iter := ⟨_, pi_list pe_W, fun c σ H R q H1 x F k => (h.run c q).t x fun v H2 ⟨H3, x3, a, xs, e, hs, q⟩ => ⟨a, e, ⟨xs, x3.sqL hs⟩, k _ _ _ _ _ _ x3 (.at walk_list fun _ _ h x => x.sqL h) q⟩⟩
def iR1 (t : RA) : RI := fun σ H R W => t σ H (fun vs H1 => match vs with
  | [.int n] => (-(2 ^ 62) ≤ n ∧ n < 2 ^ 62) ∧ R n.toNat (fun _ => True) (fun i H k => k (.int i) H) H1
  | _ => False) W
theorem i_R1 (hm : X.mg "range" = none) (h : SA X j tr [a]) (hg : Gl X "range" := by rfl) (hs : starEach [a] X.env = [(false, eval a X.env)] := by rfl) : SIt X j (iR1 tr) tg (.Call (.Name "range" p) [a] [] pos) :=
  ⟨_, pi_range1 hg hm pa_W hs, fun c σ H R q H1 x F k => (h.run c q).t x fun vs H2 ⟨H3, x3, q⟩ => by
    match vs, q with
    | [.int n], q => exact ⟨n, rfl, q.1.1, q.1.2, k _ _ _ _ _ _ x3 ⟨_, _, walk_range, fun _ _ _ _ => trivial, fun i H H1 x H1' K hi e y q => by
        obtain ⟨rfl, rfl⟩ := y
        refine ⟨H, e, ?_⟩
        show K (.int (0 + (i : Int))) H
        rw [Int.zero_add]
        exact q⟩ q.2⟩⟩
def ForP (n : Nat) (G : Hp → Prop) (Y : Nat → Hp → VK → Prop) (g : RG) (body : RS) (D : Ends) (W : WX) (σ : St) (H1 : Hp) : Prop := ∃ Pv : Nat → St → Hp → Prop, Pv 0 σ H1 ∧ (∀ i σ' H', i ≤ n → Pv i σ' H' → G H') ∧
  (∀ i σ' H', i < n → Pv i σ' H' → Y i H' fun x H2 => g x σ' H2 (fun σ3 H3 => body { D with nx := fun σ4 H4 => fg (Pv (i + 1) σ4) H4, ct := fun σ4 H4 => fg (Pv (i + 1) σ4) H4, bk := D.nx } W σ3 H3) W) ∧ ∀ σ' H', Pv n σ' H' → D.nx σ' H'
@[irreducible] def ForB (n : Nat) (G : Hp → Prop) (Y : Nat → Hp → VK → Prop) (g : RG) (body : RS) (D : Ends) (W : WX) (σ : St) (H1 : Hp) : Prop := ForP n G Y g body D W σ H1
theorem ForB.out {n : Nat} {G : Hp → Prop} {Y : Nat → Hp → VK → Prop} {g : RG} {body : RS} {D : Ends} {W : WX} {σ : St} {H1 : Hp} (h : ForB n G Y g body D W σ H1) : ForP n G Y g body D W σ H1 := by
  unfold ForB at h
  exact h
/-- a for by its invariant (turn, slots, heap) -/
theorem forB {n : Nat} {G : Hp → Prop} {Y : Nat → Hp → VK → Prop} {g : RG} {body : RS} {D : Ends} {W : WX} {σ : St} {H1 : Hp} (Pv : Nat → St → Hp → Prop) (h0 : Pv 0 σ H1) (hG : ∀ i σ' H', i ≤ n → Pv i σ' H' → G H')
    (turn : ∀ i σ' H', i < n → Pv i σ' H' → Y i H' fun x H2 => g x σ' H2 (fun σ3 H3 => body { D with nx := fun σ4 H4 => fg (Pv (i + 1) σ4) H4, ct := fun σ4 H4 => fg (Pv (i + 1) σ4) H4, bk := D.nx } W σ3 H3) W) (done : ∀ σ' H', Pv n σ' H' → D.nx σ' H') : ForB n G Y g body D W σ H1 := by
  unfold ForB
  exact ⟨Pv, h0, hG, turn, done⟩
def zFor (it : RI) (g : RG) (body : RS) : RS := fun D W σ H => it σ H (fun n G Y H1 => ForB n G Y g body D W σ H1) W
theorem z_for {it : RI} (hi : SIt X j it tg iter) (hg : SG X j g tg) (hb : SSs X j zs body) (hc : X.calm = true := by rfl) (hs : ∀ x, foldedSetIterable iter X.env x = pure x := by intro _; rfl) : SS X j (zFor it g zs) (.For tg iter body [] pos) := by
  obtain ⟨wi, pi, k⟩ := hi.ex
  refine ⟨fun {W} c o D σ H q => .of (ps_for o hc pi pg_W pss_W hs) fun H1 x => ?_⟩
  refine k c q H1 x _ fun J H2 H' n G Y x2 hJ hb0 => ?_
  obtain ⟨Pv, h0, hG, hs, hd⟩ := hb0.out
  obtain ⟨G0, Y0, wk, hG0, hY⟩ := hJ.ex
  refine for_it wk (fun i => upS (Pv i)) ⟨H', x2, h0⟩ (fun i σ' H3 hi ⟨H4, x4, p⟩ => hG0 _ _ (hG i σ' H4 hi p) x4) (fun i y σ' H3 H3' hi ⟨H4, x4, p⟩ hy => ?_) fun σ' H3 ⟨H4, x4, p⟩ => ⟨H4, x4, hd _ _ p⟩
  obtain ⟨H5, x5, q5⟩ := hY i H4 H3 y H3' _ hi x4 hy (hs i σ' H4 hi p)
  exact (hg.run c q5).t x5 fun σ6 H6 ⟨H7, x7, q7⟩ => ⟨H7, _, x7, hb.run c o q7, ⟨fun _ _ ⟨H8, x8, H9, x9, q⟩ => ⟨H9, x9.trans x8, q⟩, fun _ _ q => q, fun _ _ q => q, fun _ _ ⟨H8, x8, H9, x9, q⟩ => ⟨H9, x9.trans x8, q⟩⟩⟩
/-- while: a measure that falls, an invariant -/
def zWhile (tc : RT) (body : RS) : RS := fun D W σ H => ∃ (Pv : Nat → St → Hp → Prop) (m : Nat), Pv m σ H ∧ ∀ m σ' H', Pv m σ' H' → tc σ' H' (fun k H2 =>
  (k = true → body { D with nx := fun σ3 H3 => ∃ m', m' < m ∧ fg (Pv m' σ3) H3, ct := fun σ3 H3 => ∃ m', m' < m ∧ fg (Pv m' σ3) H3, bk := D.nx } W σ' H2) ∧ (k = false → D.nx σ' H2)) W
theorem z_while (h : SB X j tc c) (hb : SSs X j zs body) : SS X j (zWhile tc zs) (.While c body [] pos) := ⟨fun {W} cn o D σ H ⟨Pv, m, h0, hs⟩ => by
  refine ws_while (cn.t o) (fun m σ' H' => fg (Pv m σ') H') m (.i h0) fun m σ' H' ⟨H2, x2, p⟩ => ?_
  refine WT.mono (QB := fun k H2 => (k = true → zs { D with nx := fun σ3 H3 => ∃ m', m' < m ∧ fg (Pv m' σ3) H3, ct := fun σ3 H3 => ∃ m', m' < m ∧ fg (Pv m' σ3) H3, bk := D.nx } W σ' H2) ∧ (k = false → D.nx σ' H2)) (fun H1 x => h.run cn (hs m σ' H2 p) H1 (x2.trans x)) fun k H q => ?_
  cases k with
  | true => rw [if_pos rfl]; exact hb.run cn o (q.1 rfl)
  | false => exact iteF (q.2 rfl)⟩
/-! ## comprehensions -/
theorem Cn.blkU {k : Nat} {W1 : WX} (c : Cn X W k) (s : Shared) (H : Hp) (scope : Scope) (C : Addr) (cl : List (Str × Addr)) (fp : List Addr) : Cn (X.blk s H scope (compEnvC scope cl C X.env) fp) (upW fun _ _ _ _ => False) k :=
  ⟨c.room, c.un, c.gd, fun u s' ⟨a, B, sI, pins, σ, H, cls, d, e, I, nb, up, sky, na, os, ag, w⟩ => w.elim fun _ w => w.2.elim, fun _ _ _ _ _ z _ => z.elim fun _ w => w.2.elim⟩
def noW : WX := fun _ _ _ _ => False
def tY : RT := fun _ H Q _ => Q true H
/-- [elt for tg in it if tc] -/
def LcP (n : Nat) (G : Hp → Prop) (Y : Nat → Hp → VK → Prop) (g : RG) (tc : RT) (elt : RX) (vs : List Nat) (σ : St) (H1 : Hp) (Q : VK) : Prop := ∃ Pv : Nat → List V → Hp → Prop, Pv 0 [] H1 ∧ (∀ i acc H', i ≤ n → Pv i acc H' → G H' ∧ acc.length < 100000) ∧
  (∀ i acc H' d, i < n → Pv i acc H' → H' d = none → Y i (upd H' d (.lst acc)) fun x H2 => g x (wipe σ vs) H2 (fun σ3 H3 => wipe σ3 vs = wipe σ vs ∧ tc σ3 H3 (fun k H4 =>
    (k = true → elt σ3 H4 (fun y H5 => ∃ H6, H6 d = none ∧ Ex (upd H6 d (.lst acc)) H5 ∧ Pv (i + 1) (acc ++ [y]) H6) noW) ∧ (k = false → ∃ H6, H6 d = none ∧ Ex (upd H6 d (.lst acc)) H4 ∧ Pv (i + 1) acc H6)) noW) noW) ∧
  ∀ acc H' q, Pv n acc H' → H' q = none → Q (.ref q) (upd H' q (.lst acc))
@[irreducible] def LcB (n : Nat) (G : Hp → Prop) (Y : Nat → Hp → VK → Prop) (g : RG) (tc : RT) (elt : RX) (vs : List Nat) (σ : St) (H1 : Hp) (Q : VK) : Prop := LcP n G Y g tc elt vs σ H1 Q
theorem LcB.out {n : Nat} {G : Hp → Prop} {Y : Nat → Hp → VK → Prop} {g : RG} {tc : RT} {elt : RX} {vs : List Nat} {σ : St} {H1 : Hp} {Q : VK} (h : LcB n G Y g tc elt vs σ H1 Q) : LcP n G Y g tc elt vs σ H1 Q := by
  unfold LcB at h
  exact h
/-- a comprehension by its invariant (turn, the list so far, the heap without it) -/
theorem lcB {n : Nat} {G : Hp → Prop} {Y : Nat → Hp → VK → Prop} {g : RG} {tc : RT} {elt : RX} {vs : List Nat} {σ : St} {H1 : Hp} {Q : VK} (Pv : Nat → List V → Hp → Prop) (h0 : Pv 0 [] H1) (hG : ∀ i acc H', i ≤ n → Pv i acc H' → G H' ∧ acc.length < 100000)
    (turn : ∀ i acc H' d, i < n → Pv i acc H' → H' d = none → Y i (upd H' d (.lst acc)) fun x H2 => g x (wipe σ vs) H2 (fun σ3 H3 => wipe σ3 vs = wipe σ vs ∧ tc σ3 H3 (fun k H4 =>
    (k = true → elt σ3 H4 (fun y H5 => ∃ H6, H6 d = none ∧ Ex (upd H6 d (.lst acc)) H5 ∧ Pv (i + 1) (acc ++ [y]) H6) noW) ∧ (k = false → ∃ H6, H6 d = none ∧ Ex (upd H6 d (.lst acc)) H4 ∧ Pv (i + 1) acc H6)) noW) noW)
    (done : ∀ acc H' q, Pv n acc H' → H' q = none → Q (.ref q) (upd H' q (.lst acc))) : LcB n G Y g tc elt vs σ H1 Q := by
  unfold LcB
  exact ⟨Pv, h0, hG, turn, done⟩
/-- [elt for tg in it if tc] -/
def rLc (it : RI) (g : RG) (tc : RT) (elt : RX) (vs : List Nat) : RX := fun σ H Q W => it σ H (fun n G Y H1 => LcB n G Y g tc elt vs σ H1 Q) W
structure SBs (X : Cx) (j : Nat) (t : RT) (ifs : List Expr) : Prop where
  run : ∀ {W : WX}, Cn X (upW W) j → ∀ {σ H Q}, t σ H Q W → ∀ H1, Ex H H1 → ∀ pins s, Inv X pins σ H1 s → ∀ (Qf : Bool → Hp → Prop), (∀ k H2, upB Q k H2 → Qf k H2) → True
/-- a text within the block -/
def eBW (X : Cx) (scope : Scope) (t : RX) (e : Expr) : TE := fun σ H1 Q1 => ∃ H Q, Ex H H1 ∧ t σ H Q noW ∧ ∀ v H2, up Q v H2 → Q1 v H2
def tBW (X : Cx) (scope : Scope) (t : RT) (e : Expr) : TT := fun σ H1 Q1 => ∃ H Q, Ex H H1 ∧ t σ H Q noW ∧ ∀ v H2, upB Q v H2 → Q1 v H2
def gBW (X : Cx) (scope : Scope) (g : RG) (tg : Expr) : TG := fun v σ H1 R1 => ∃ H R, Ex H H1 ∧ g v σ H R noW ∧ ∀ σ' H2, upS R σ' H2 → R1 σ' H2
theorem lc_ok {scope : Scope} {own : List (Str × Nat)} {it : RI} {elt : Expr} {ifs : List Expr} {te : RX} (cn : Cn X (upW W) j) (hi : SIt X j it tg iter) (hg : InB X scope fun Y => SG Y j g tg) (ht : ∀ (s : Shared) (H : Hp) (C : Addr) (cl : List (Str × Addr)) (fp : List Addr), PTs (X.blk s H scope (compEnvC scope cl C X.env) fp) ifs (tBW X scope tc iter)) (he : InB X scope fun Y => SX Y j te elt)
    (q : rLc it g tc te (own.map (·.2)) σ H Q W) : ∃ wi, PI X tg iter wi ∧ ∀ H1, Ex H H1 → tLc wi (gBW X scope g tg) (tBW X scope tc iter) (eBW X scope te elt) (own.map (·.2)) σ H1 (up Q) := by
  obtain ⟨wi, pi, k⟩ := hi.ex
  refine ⟨wi, pi, fun H1 x => ?_⟩
  refine k cn q H1 x _ fun J H2 H' n G Y x2 hJ hb0 D hD => ?_
  obtain ⟨Pv, h0, hG, hs, hd⟩ := hb0.out
  obtain ⟨G0, Y0, wk, hG0, hY⟩ := hJ.ex
  refine lc_it wk (fun i H4 => ∃ acc H5, H5 D = none ∧ Ex (upd H5 D (.lst acc)) H4 ∧ Pv i acc H5) ⟨[], H', x2.free hD, x2.set D _, h0⟩ (fun i H4 hi ⟨acc, H5, n5, x5, p⟩ => hG0 _ _ (hG i acc H5 hi p).1 ((Ex.put n5).trans x5)) (fun i y H4 H4' hi ⟨acc, H5, n5, x5, p⟩ hy => ?_) fun H4 ⟨acc, H5, n5, x5, p⟩ => ⟨_, x5, hd acc H5 D p n5⟩
  obtain ⟨H6, x6, q6⟩ := hY i _ H4 y H4' _ hi x5 hy (hs i acc H5 D hi p n5)
  have hz := (hG i acc H5 (Nat.le_of_lt hi) p).2
  refine ⟨H6, _, x6, q6, fun σ7 H7 ⟨H8, x8, ew, q8⟩ => ⟨ew, H8, _, x8, q8, fun b H9 ⟨H10, x10, q10⟩ => ?_⟩⟩
  cases b with
  | true =>
    rw [if_pos rfl]
    refine ⟨H10, _, x10, q10.1 rfl, fun y H11 ⟨H12, x12, H13, n13, x13, p13⟩ => ⟨acc, (x13.trans x12) _ _ upd_same, Nat.lt_trans hz (by decide), acc ++ [y], H13, n13, ?_, p13⟩⟩
    have z := (x13.trans x12).set D (.lst (acc ++ [y]))
    rw [upd_upd] at z
    exact z
  | false =>
    rw [if_neg (by decide)]
    obtain ⟨H13, n13, x13, p13⟩ := q10.2 rfl
    exact ⟨acc, H13, n13, x13.trans x10, p13⟩
theorem gBW_ok {scope : Scope} (cn : Cn X (upW W) j) (hg : InB X scope fun Y => SG Y j g tg) (s : Shared) (H : Hp) (C : Addr) (cl : List (Str × Addr)) (fp : List Addr) : PG (X.blk s H scope (compEnvC scope cl C X.env) fp) tg (gBW X scope g tg) :=
  ⟨fun pins s' σ H' v u R I r ⟨H1, R1, x, q, k⟩ => pg_W.run pins s' σ H' v u R I r ((hg s H C cl fp).run (cn.blkU (W1 := noW) s H scope C cl fp) q |>.t x k)⟩
theorem eBW_ok {scope : Scope} {te : RX} (cn : Cn X (upW W) j) (he : InB X scope fun Y => SX Y j te e) (s : Shared) (H : Hp) (C : Addr) (cl : List (Str × Addr)) (fp : List Addr) : PE (X.blk s H scope (compEnvC scope cl C X.env) fp) e (eBW X scope te e) :=
  ⟨fun pins s' σ H' Q I ⟨H1, Q1, x, q, k⟩ => pe_W.run pins s' σ H' Q I ((he s H C cl fp).run (cn.blkU (W1 := noW) s H scope C cl fp) q |>.t x k)⟩
theorem tBW_ok {scope : Scope} {e2 : Expr} (cn : Cn X (upW W) j) (he : InB X scope fun Y => SB Y j tc e) (s : Shared) (H : Hp) (C : Addr) (cl : List (Str × Addr)) (fp : List Addr) : PTs (X.blk s H scope (compEnvC scope cl C X.env) fp) [e] (tBW X scope tc e2) :=
  pts_one ⟨fun pins s' σ H' Q I ⟨H1, Q1, x, q, k⟩ => pt_W.run pins s' σ H' Q I ((he s H C cl fp).run (cn.blkU (W1 := noW) s H scope C cl fp) q |>.t x k)⟩
theorem tBW_ok0 {scope : Scope} {e2 : Expr} (s : Shared) (H : Hp) (C : Addr) (cl : List (Str × Addr)) (fp : List Addr) : PTs (X.blk s H scope (compEnvC scope cl C X.env) fp) [] (tBW X scope tY e2) :=
  ⟨fun pins s' σ H' Q I ⟨H1, Q1, x, q, k⟩ => wpAny_tests_nil ⟨H', I, k _ _ ⟨H1, x, q⟩⟩⟩
theorem s_lc0 {scope : Scope} {own : List (Str × Nat)} {it : RI} {elt : Expr} {te : RX} (hi : SIt X j it tg iter) (hN : X.N.Nodup) (ok : blkC X.N X.env.scope scope own = true) (hg : InB X scope fun Y => SG Y j g tg) (he : InB X scope fun Y => SX Y j te elt) (hc : X.calm = true := by rfl) (hs : ∀ x, foldedSetIterable iter X.env x = pure x := by intro _; rfl) :
    SX X j (rLc it g tY te (own.map (·.2))) (.ListComp elt [⟨tg, iter, [], 0⟩] scope pos) := ⟨fun cn σ H Q q => by
  obtain ⟨wi, pi, k⟩ := lc_ok (scope := scope) (elt := elt) (ifs := []) cn hi hg tBW_ok0 he q
  exact .of (pe_lc hc hN pi (blkOk_by ok) (gBW_ok cn hg) tBW_ok0 (eBW_ok cn he) hs) k⟩
theorem s_lc1 {scope : Scope} {own : List (Str × Nat)} {it : RI} {elt cd : Expr} {te : RX} (hi : SIt X j it tg iter) (hN : X.N.Nodup) (ok : blkC X.N X.env.scope scope own = true) (hg : InB X scope fun Y => SG Y j g tg) (ht : InB X scope fun Y => SB Y j tc cd) (he : InB X scope fun Y => SX Y j te elt) (hc : X.calm = true := by rfl) (hs : ∀ x, foldedSetIterable iter X.env x = pure x := by intro _; rfl) :
    SX X j (rLc it g tc te (own.map (·.2))) (.ListComp elt [⟨tg, iter, [cd], 0⟩] scope pos) := ⟨fun cn σ H Q q => by
  obtain ⟨wi, pi, k⟩ := lc_ok (scope := scope) (elt := elt) (ifs := [cd]) cn hi hg (tBW_ok cn ht) he q
  exact .of (pe_lc hc hN pi (blkOk_by ok) (gBW_ok cn hg) (tBW_ok cn ht) (eBW_ok cn he) hs) k⟩
/-- name = [..] -/
theorem z_lc0 {y : Str} {py spos : Pos} {scope : Scope} {own : List (Str × Nat)} {it : RI} {elt : Expr} {te : RX} (hi : SIt X j it tg iter) (hN : X.N.Nodup) (hy : X.N[i]? = some y) (ok : blkC X.N X.env.scope scope own = true) (hg : InB X scope fun Y => SG Y j g tg) (he : InB X scope fun Y => SX Y j te elt) (hyl : X.env.scope.names.lookup y = some .local := by rfl)
    (hsw : swapsWith (.ListComp elt [⟨tg, iter, [], 0⟩] scope pos) (some (.Name y py)) spos.line X.env = pure true := by rfl) (hc : X.calm = true := by rfl) (hs : ∀ x, foldedSetIterable iter X.env x = pure x := by intro _; rfl) :
    SS X j (zSet i (rLc it g tY te (own.map (·.2)))) (.Assign [.Name y py] (.ListComp elt [⟨tg, iter, [], 0⟩] scope pos) spos) := ⟨fun cn _ D σ H q => by
  obtain ⟨wi, pi, k⟩ := lc_ok (scope := scope) (elt := elt) (ifs := []) cn hi hg tBW_ok0 he q
  exact .of (ps_setLc hc hN hy hyl hsw pi (blkOk_by ok) (gBW_ok cn hg) tBW_ok0 (eBW_ok cn he) hs) fun H1 x => by simp only [put_set] at k; exact k H1 x⟩
theorem z_lc1 {y : Str} {py spos : Pos} {scope : Scope} {own : List (Str × Nat)} {it : RI} {elt cd : Expr} {te : RX} (hi : SIt X j it tg iter) (hN : X.N.Nodup) (hy : X.N[i]? = some y) (ok : blkC X.N X.env.scope scope own = true) (hg : InB X scope fun Y => SG Y j g tg) (ht : InB X scope fun Y => SB Y j tc cd) (he : InB X scope fun Y => SX Y j te elt) (hyl : X.env.scope.names.lookup y = some .local := by rfl)
    (hsw : swapsWith (.ListComp elt [⟨tg, iter, [cd], 0⟩] scope pos) (some (.Name y py)) spos.line X.env = pure true := by rfl) (hc : X.calm = true := by rfl) (hs : ∀ x, foldedSetIterable iter X.env x = pure x := by intro _; rfl) :
    SS X j (zSet i (rLc it g tc te (own.map (·.2)))) (.Assign [.Name y py] (.ListComp elt [⟨tg, iter, [cd], 0⟩] scope pos) spos) := ⟨fun cn _ D σ H q => by
  obtain ⟨wi, pi, k⟩ := lc_ok (scope := scope) (elt := elt) (ifs := [cd]) cn hi hg (tBW_ok cn ht) he q
  exact .of (ps_setLc hc hN hy hyl hsw pi (blkOk_by ok) (gBW_ok cn hg) (tBW_ok cn ht) (eBW_ok cn he) hs) fun H1 x => by simp only [put_set] at k; exact k H1 x⟩
/-! ## a def -/
def rFn (n : Nat) (N : List Str) (body : RS) : Sp := fun vs H Q E => vs.length = n ∧ body { nx := fun _ H' => fg (Q .non) H', rt := fun v H' => fg (Q v) H' } (fun c d _ H' => E c d H') (start N vs) H
theorem rfn_ends {Q : VK} : EndsLe { nx := fun _ H' => fg (Q .non) H', rt := fun v H' => fg (Q v) H' } (upD { nx := fun _ H' => Q .non H', rt := Q }) :=
  ⟨fun _ _ ⟨_, x, H', x', q⟩ => ⟨H', x'.trans x, q⟩, fun _ _ ⟨_, x, H', x', q⟩ => ⟨H', x'.trans x, q⟩, fun _ _ ⟨_, _, q⟩ => q.elim, fun _ _ ⟨_, _, q⟩ => q.elim⟩
end
section
variable {P : Program} {w : World} {K : PySem.W.Frag} {mg : Str → Option Value} {base : Heap} {n : Str} {st : Stmt} {ps N : List Str} {k : Nat} {zs : RS}
abbrev Body (P : Program) (w : World) (K : PySem.W.Frag) (mg : Str → Option Value) (base : Heap) (N : List Str) (n : Str) (st : Stmt) (f : Addr) (k : Nat) (zs : RS) : Prop :=
  ∀ (cd : Value) (A : Around) (outer : List Env) (s : Shared) (H1 : Hp) (E1 : XK), SSs (fx P w K mg base N n st f cd A outer s H1 E1) k zs (defBody st)
theorem Def.rfng (d : Def K mg n st ps) (S : FnScope N ps (defScope st)) (hb : Body P w K mg base N n st d.f k zs) : FnG P w K mg base (k + 1) d.f d.fd ps (rFn ps.length N zs) :=
  fng_of d.F S (fun vs H Q E h => h.1) fun cd A outer s H1 E1 W vs H Q E c o hW h => by
    have c2 : Cn (fx P w K mg base N n st d.f cd A outer s H1 E1) (upW fun c d _ H' => E c d H') k := ⟨c.room, c.un, c.gd, c.tk.imp fun c0 d0 σ0 H0 ⟨H2, x2, q⟩ => c.wu _ _ _ _ _ (hW _ _ _ _ q) x2, fun c d σ H H' ⟨H2, x2, q⟩ x => ⟨H2, x2.trans x, q⟩⟩
    exact ((hb cd A outer s H1 E1).run c2 o h.2).le rfn_ends
theorem Def.rcal (d : Def K mg n st ps) (S : FnScope N ps (defScope st)) (hb : Body P w K mg base N n st d.f k zs) : Cal P w K mg base n (k + 1) ps [] (rFn ps.length N zs) :=
  ⟨d.f, d.fd, [], d.rfng S hb, d.g, d.F.kp, d.b, .nil, by
    obtain ⟨oc, od, kV, doc, pm, an, cd, ct, osl, e, lk, _⟩ := d.F.ex
    exact ⟨oc, od, osl, lk⟩⟩
end
/-! ## keyword calls -/
def reo {α : Type} (is : List Nat) (us ws : List α) : List α := is.filterMap fun i => (us ++ ws)[i]?
theorem reo_vals (is : List Nat) {vs zs : List V} {us ws : List Value} (h1 : Vals vs us) (h2 : Vals zs ws) : Vals (reo is vs zs) (reo is us ws) := by
  have h := h1.append h2
  unfold reo
  induction is with
  | nil => exact .nil
  | cons i is ih =>
    rw [List.filterMap_cons, List.filterMap_cons]
    cases e : (vs ++ zs)[i]? with
    | none =>
      rw [Vals.none_of h e]
      exact ih
    | some x =>
      obtain ⟨u, hu, r⟩ := Vals.get h e
      rw [hu]
      exact .cons r ih
section
variable {X : Cx} {j : Nat} {W : WX} {e a b c : Expr} {es rest : List Expr} {kws : List Keyword} {σ : St} {H H1 : Hp} {Q : VK} {pos p : Pos} {t ta tb : RX} {tr tk : RA} {n : Str}
theorem WK.mono {QA QA1 : List V → Hp → Prop} (w : WK X kws σ H QA) (k : ∀ v H, QA v H → QA1 v H) : WK X kws σ H QA1 := fun H1 x pos pins s I => thn (w H1 x pos pins s I) fun u s' ⟨v, H2, I2, r, H3, x3, q⟩ => ⟨v, H2, I2, r, H3, x3, k _ _ q⟩
/-! ## f-strings -/
def rJs : List RX → Str → St → Hp → (Str → Hp → Prop) → WX → Prop
  | [], acc, _, H, Q, _ => Q acc H
  | t :: ts, acc, σ, H, Q, W => t σ H (fun v H1 => ∃ y, v = .str y ∧ (acc ++ y).length ≤ sizeLine ∧ rJs ts (acc ++ y) σ H1 Q W) W
def rJoin (ts : List RX) : RX := fun σ H Q W => rJs ts Str.empty σ H (fun y H1 => Q (.str y) H1) W
inductive SJ (X : Cx) (j : Nat) : List RX → List Expr → Prop where
  | nil : SJ X j [] []
  | cons {t : RX} {e : Expr} {ts : List RX} {es : List Expr} (h : SX X j t e) (r : SJ X j ts es) : SJ X j (t :: ts) (e :: es)
theorem SJ.pj {ts : List RX} (h : SJ X j ts es) : PJ X es (es.map (tWE X)) := by
  induction h with
  | nil => exact .nil
  | cons h r ih => exact .cons pe_W ih
theorem SJ.run {ts : List RX} (h : SJ X j ts es) (c : Cn X (upW W) j) : ∀ (acc : Str) (Q Q1 : Str → Hp → Prop) (H H1 : Hp), Ex H H1 → rJs ts acc σ H Q W → (∀ y H' H2, Ex H' H2 → Q y H' → Q1 y H2) → tJs (es.map (tWE X)) acc σ H1 Q1 := by
  induction h with
  | nil => intro acc Q Q1 H H1 x q k; exact k _ _ _ x q
  | cons h r ih =>
    intro acc Q Q1 H H1 x q k
    exact (h.run c q).t x fun v H2 ⟨H3, x3, y, e, hz, q⟩ => ⟨y, e, hz, ih _ _ _ _ _ x3 q k⟩
theorem s_join {ts : List RX} (h : SJ X j ts (a :: b :: es)) : SX X j (rJoin ts) (.JoinedStr (a :: b :: es) pos) := ⟨fun c σ H Q q =>
  .of (pe_joined h.pj) fun H1 x => h.run c _ _ _ _ _ x q fun y H' H2 x2 q => ⟨H', x2, q⟩⟩
def rFmtI (t : RX) : RX := fun σ H Q W => t σ H (fun v H1 => match v with
  | .int i => i.natAbs.log2 < 1920 ∧ Q (.str (toString i)) H1
  | .str y => y.length ≤ sizeLine ∧ Q (.str y) H1
  | _ => False) W
theorem s_fmt (h : SX X j t e) : SX X j (rFmtI t) (.FormattedValue e (-1) none pos) := ⟨fun c _ _ _ q => .of (pe_fmt pe_W) fun H2 x2 => (h.run c q).t x2 fun v H3 ⟨H4, x4, q⟩ => by
  cases v <;> first | exact .inr ⟨_, rfl, q.1, H4, x4, q.2⟩ | exact .inl ⟨_, rfl, q.1, H4, x4, q.2⟩ | exact q.elim⟩
end
/-! ## plain numbers, data of ints -/
theorem lowb_pos {v : Int} (h : 0 < v) : 1 ≤ lowb v := by
  obtain ⟨n, rfl⟩ := Int.eq_ofNat_of_zero_le (Int.le_of_lt h)
  rw [lowb_nat (by omega)]
  have := Nat.and_le_right (n := n) (m := n - 1)
  omega
theorem mulW {i j : Int} (h1 : Wide i) (h2 : Wide j) : CMulX i j := by
  have a := h1.bits
  have b := h2.bits
  show (Builtin.Int.intBits i : Int) + (Builtin.Int.intBits j : Int) ≤ 134217728
  omega
theorem dp_ints {K : PySem.W.Frag} {H : Hp} : ∀ xs : List Int, DpAll K H (xs.map V.int) (xs.map PyData.int)
  | [] => .nil
  | x :: xs => .cons (.int x) (dp_ints xs)
theorem fits_ints : ∀ xs : List Int, (∀ x ∈ xs, 0 ≤ x ∧ x < 1000000000000000000000000000000000000000000000000000000000000000) → fitsAll (xs.map PyData.int)
  | [], _ => by simp [fitsAll]
  | x :: xs, h => by
    have h1 := h x (List.mem_cons_self ..)
    simp only [List.map_cons, fitsAll, fits]
    exact ⟨by omega, fits_ints xs fun y hy => h y (List.mem_cons_of_mem _ hy)⟩
theorem bulk_ints : ∀ xs : List Int, PyData.bulkAll (xs.map PyData.int) = xs.length
  | [] => by simp [PyData.bulkAll]
  | x :: xs => by
    simp only [List.map_cons, PyData.bulkAll, PyData.bulk, bulk_ints xs, List.length_cons]
    omega
theorem depth_ints : ∀ xs : List Int, PyData.depthAll (xs.map PyData.int) = 0
  | [] => by simp [PyData.depthAll]
  | x :: xs => by
    simp only [List.map_cons, PyData.depthAll, PyData.depth, depth_ints xs]
    rfl
theorem bits_pow {n : Int} : (1 : Int) * 2 ^ ((Builtin.Int.intBits n : Nat) : Int).toNat = 2 ^ Builtin.Int.intBits n := by rw [bits_nat, Int.one_mul]
/-- the powers that are left -/
def pwR : Nat → Int
  | 0 => 0
  | k + 1 => 2 ^ k
theorem pwR_half (k : Nat) : pwR (k + 1) / 2 ^ (1 : Int).toNat = pwR k := by
  show (2 : Int) ^ k / 2 ^ 1 = pwR k
  cases k with
  | zero => rfl
  | succ k =>
    show (2 : Int) ^ (k + 1) / 2 = 2 ^ k
    rw [Int.pow_succ]
    exact Int.mul_ediv_cancel _ (by decide)
section
variable {n m : Nat} {G : Hp → Prop} {Y : Nat → Hp → VK → Prop} {g : RG} {elt : RX} {vs : List Nat} {σ : St} {H : Hp} {Q : VK} {xs : List V} {lo : Int}
theorem wipe_put {v : V} : wipe (put (wipe σ [m]) m v) [m] = wipe σ [m] := by
  show (put (σ.set m none) m v).set m none = σ.set m none
  rw [put_set, List.set_set, List.set_set]
/-- a comprehension without test, one name; each turn leaves the heap as it was; the items are told by P (turn, item) -/
theorem lc_gen (I : Nat → V → Prop) (hy : ∀ i H k, i < n → (∀ x, I i x → k x H) → Y i H k) (P : Nat → V → Prop) (hn : n < 100000) (hG : G H)
    (turn : ∀ i x d acc (R : VK), i < n → I i x → H d = none → (∀ y H5, Ex (upd H d (.lst acc)) H5 → P i y → R y H5) → elt (put (wipe σ [m]) m x) (upd H d (.lst acc)) R noW)
    (done : ∀ ys q, ys.length = n → (∀ i y, ys[i]? = some y → P i y) → H q = none → Q (.ref q) (upd H q (.lst ys))) : LcB n G Y (gName m) tY elt [m] σ H Q :=
  lcB (fun i acc H' => H' = H ∧ acc.length = i ∧ ∀ k y, acc[k]? = some y → P k y) ⟨rfl, rfl, fun _ _ z => by simp at z⟩ (fun i acc H' hi p => by
    obtain ⟨rfl, p, _⟩ := p
    exact ⟨hG, by omega⟩) (fun i acc H' d hi p nd => by
    obtain ⟨rfl, rfl, p⟩ := p
    refine hy _ _ _ hi fun x hx => ⟨wipe_put, fun _ => turn _ x d acc _ hi hx nd fun y H5 x5 hp => ⟨H', nd, x5, rfl, by simp, fun k y' hk => ?_⟩, fun z => nomatch z⟩
    by_cases hk2 : k < acc.length
    · exact p k y' (by rwa [List.getElem?_append_left hk2] at hk)
    · rw [List.getElem?_append_right (by omega)] at hk
      have : k - acc.length = 0 := by
        cases e : k - acc.length with
        | zero => rfl
        | succ j => rw [e] at hk; simp at hk
      have e : k = acc.length := by omega
      subst e
      simp at hk
      exact hk ▸ hp) fun acc H' q p nq => by
    obtain ⟨rfl, hl, p⟩ := p
    exact done acc q hl p nq
theorem lc_rng (P : Nat → V → Prop) (hn : n < 100000) (turn : ∀ i d acc (R : VK), i < n → H d = none → (∀ y H5, Ex (upd H d (.lst acc)) H5 → P i y → R y H5) → elt (put (wipe σ [m]) m (.int i)) (upd H d (.lst acc)) R noW)
    (done : ∀ ys q, ys.length = n → (∀ i y, ys[i]? = some y → P i y) → H q = none → Q (.ref q) (upd H q (.lst ys))) : LcB n (fun _ => True) (fun i H k => k (.int i) H) (gName m) tY elt [m] σ H Q :=
  lc_gen (fun i x => x = .int i) (fun _ _ _ _ k => k _ rfl) P hn trivial (fun i x d acc R hi e nd k => by subst e; exact turn i d acc R hi nd k) done
theorem lc_at (P : Nat → V → Prop) (hn : xs.length < 100000) (hG : G H) (turn : ∀ i x d acc (R : VK), xs[i]? = some x → H d = none → (∀ y H5, Ex (upd H d (.lst acc)) H5 → P i y → R y H5) → elt (put (wipe σ [m]) m x) (upd H d (.lst acc)) R noW)
    (done : ∀ ys q, ys.length = xs.length → (∀ i y, ys[i]? = some y → P i y) → H q = none → Q (.ref q) (upd H q (.lst ys))) : LcB xs.length G (yAt xs) (gName m) tY elt [m] σ H Q :=
  lc_gen (fun i x => xs[i]? = some x) (fun _ _ _ _ k => k) P hn hG (fun i x d acc R hi e nd k => turn i x d acc R e nd k) done
/-- with a test: f tells its answer, gx the item -/
theorem lc_fm {tc : RT} (f : V → Bool) (gx : V → V) (hn : xs.length < 100000) (hG : G H)
    (turn : ∀ (i : Nat) x d acc (R : Bool → Hp → Prop), xs[i]? = some x → H d = none → (∀ H5, Ex (upd H d (.lst acc)) H5 → R (f x) H5) → tc (put (wipe σ [m]) m x) (upd H d (.lst acc)) R noW)
    (item : ∀ (i : Nat) x d acc H4 (R : VK), xs[i]? = some x → f x = true → H d = none → Ex (upd H d (.lst acc)) H4 → (∀ H5, Ex (upd H d (.lst acc)) H5 → R (gx x) H5) → elt (put (wipe σ [m]) m x) H4 R noW)
    (done : ∀ q, H q = none → Q (.ref q) (upd H q (.lst ((xs.filter f).map gx)))) : LcB xs.length G (yAt xs) (gName m) tc elt [m] σ H Q :=
  lcB (fun i acc H' => H' = H ∧ acc = ((xs.take i).filter f).map gx) ⟨rfl, by simp⟩ (fun i acc H' hi p => by
    obtain ⟨rfl, rfl⟩ := p
    refine ⟨hG, ?_⟩
    have h1 := List.length_filter_le f (xs.take i)
    have h2 := List.length_take_le i xs
    rw [List.length_map]
    omega) (fun i acc H' d hi p nd => by
    obtain ⟨rfl, rfl⟩ := p
    intro x hx
    have ht : xs.take (i + 1) = xs.take i ++ [x] := by rw [List.take_succ, hx]; rfl
    refine ⟨wipe_put, turn i x d _ _ hx nd fun H5 x5 => ⟨fun hf => item i x d _ _ _ hx hf nd x5 fun H6 x6 => ⟨H', nd, x6, rfl, ?_⟩, fun hf => ⟨H', nd, x5, rfl, ?_⟩⟩⟩
    · rw [ht, List.filter_append, List.map_append]
      simp [List.filter, hf]
    · rw [ht, List.filter_append]
      simp [List.filter, hf]) fun acc H' q p nq => by
    obtain ⟨rfl, rfl⟩ := p
    rw [List.take_length]
    exact done q nq
theorem all_bl {ys : List V} {b : Bool} (h : ∀ (i : Nat) (y : V), ys[i]? = some y → y = .bl b) : ys = List.replicate ys.length (V.bl b) :=
  List.eq_replicate_iff.mpr ⟨rfl, fun y hy => by
    obtain ⟨i, hi⟩ := List.getElem?_of_mem hy
    exact h i y hi⟩
end
theorem FnG.imp {P : Program} {w : World} {K : PySem.W.Frag} {mg : Str → Option Value} {base : Heap} {k : Nat} {f : Addr} {fd : FuncData} {ps : List Str} {sp sp' : Sp} (F : FnG P w K mg base k f fd ps sp) (h : ∀ vs H Q E, sp' vs H Q E → sp vs H Q E) : FnG P w K mg base k f fd ps sp' :=
  ⟨fun vs H Q E q => F.len vs H Q E (h _ _ _ _ q), fun A outer s H1 args us vs H Q E hr hg e0 hb r x q => F.run A outer s H1 args us vs H Q E hr hg e0 hb r x (h _ _ _ _ q)⟩
/-- what a law's end asks of the law's def -/
def sp_end (K : PySem.W.Frag) : Sp := fun vs H Q _ => ∃ (a : Addr) (ns : List Int), vs = [.ref a] ∧ SqL K H a (ns.map V.int) ∧ ns.length ≤ 63 ∧ ∀ H', Q (.bl true) H'
theorem FnG.atEnd {P : Program} {w : World} {K : PySem.W.Frag} {mg : Str → Option Value} {base : Heap} {k : Nat} {f : Addr} {fd : FuncData} {x : Str} {sp : Sp} (F : FnG P w K mg base k f fd [x] sp)
    (h : ∀ {a : Addr} {ns : List Int} {H : Hp}, SqL K H a (ns.map V.int) → ns.length ≤ 63 → ∀ {Q : VK} {E : XK}, (∀ H, Q (.bl true) H) → sp [.ref a] H Q E) : FnG P w K mg base k f fd [x] (sp_end K) :=
  F.imp fun vs H Q E ⟨a, ns, e, hs, hl, q⟩ => by
    subst e
    exact h hs hl q
/-! ## the order of tuples of ints and bools -/
def num : V → Int
  | .int i => i
  | .bl b => b2i b
  | _ => 0
section
variable {X : Cx} {j : Nat} {W : WX}
/-! ## sorted of ints -/
def cSorted (K : PySem.W.Frag) : RC := c1 fun x H Q => ∃ (a : Addr) (ns : List Int), x = .ref a ∧ SqL K H a (ns.map V.int) ∧ ∀ (ns' : List Int) (p : Addr), ns'.Perm ns → ns'.Pairwise (· ≤ ·) → H p = none → Q (.ref p) (upd H p (.lst (ns'.map V.int)))
theorem c_sorted : SC X (.builtin "sorted") (cSorted X.K) := sc1 fun x H Q ⟨a, ns, e, hs, q⟩ => by
  subst e
  exact .of cr_sortedI fun H1 x => ⟨a, ns, rfl, x.sqL hs, fun ns' p h1 h2 n => ⟨_, x.set p _, q ns' p h1 h2 (x.free n)⟩⟩
end
/-! ## steps, counts -/
theorem lowb_ex : ∀ {n : Nat}, 0 < n → ∃ j : Nat, lowb (n : Int) = 2 ^ j ∧ (n : Int) % 2 ^ j = 0 ∧ (n : Int) % (2 * 2 ^ j) ≠ 0 := fun {n} => by
  induction n using Nat.strongRecOn with
  | _ n ih =>
    intro h
    have key : ∃ j : Nat, (n : Int) % 2 ^ j = 0 ∧ (n : Int) % (2 * 2 ^ j) ≠ 0 := by
      by_cases hp : n % 2 = 1
      · exact ⟨0, by omega, by omega⟩
      · obtain ⟨m, rfl⟩ : ∃ m, n = 2 * m := ⟨n / 2, by omega⟩
        obtain ⟨j, -, h1, h2⟩ := ih m (by omega) (by omega)
        refine ⟨j + 1, ?_, fun z => h2 ?_⟩
        · rw [Int.pow_succ, Int.mul_comm, Int.natCast_mul]
          show (2 : Int) * m % (2 * 2 ^ j) = 0
          rw [Int.mul_emod_mul_of_pos _ _ (by decide), h1]
          rfl
        · rw [Int.pow_succ, Int.mul_comm (2 ^ j), Int.natCast_mul] at z
          have z : (2 : Int) * m % (2 * (2 * 2 ^ j)) = 0 := z
          rw [Int.mul_emod_mul_of_pos _ _ (by decide)] at z
          omega
    obtain ⟨j, h1, h2⟩ := key
    exact ⟨j, lowb_is (by omega) h1 h2, h1, h2⟩
theorem lowb_two {n : Int} (h : 0 < n) : ∃ j : Nat, lowb n = 2 ^ j ∧ n % 2 ^ j = 0 ∧ n % (2 * 2 ^ j) ≠ 0 := by
  obtain ⟨m, rfl⟩ := Int.eq_ofNat_of_zero_le (Int.le_of_lt h)
  exact lowb_ex (by omega)
/-! ## classes: instances, fields, methods -/
/-- a method that stands in a class -/
structure DefM (K : PySem.W.Frag) (C : Addr) (m qual : Str) (st : Stmt) (ps : List Str) : Type where
  f : Addr
  fd : FuncData
  F : Fun K m qual st f fd
  mt : Meth K C m f
  b : Binds K fd ps []
/-- one with keyword-only parameters that have defaults -/
structure DefMK (K : PySem.W.Frag) (C : Addr) (m qual : Str) (st : Stmt) (kws : List (Str × V)) : Type where
  f : Addr
  fd : FuncData
  F : FunD K m qual (defArgs st) (defBody st) (defScope st) [] kws f fd
  mt : Meth K C m f
structure CalM (P : Program) (w : World) (K : PySem.W.Frag) (mg : Str → Option Value) (base : Heap) (C : Addr) (m : Str) (k : Nat) (ps : List Str) (dvs : List V) (sp : Sp) : Prop where
  ex : ∃ (f : Addr) (fd : FuncData) (ds : List Value), FnG P w K mg base k f fd ps sp ∧ Meth K C m f ∧ Binds K fd ps ds ∧ Vals dvs ds
/-- called with n positional values (self too) and the keywords ks -/
structure CalMK (P : Program) (w : World) (K : PySem.W.Frag) (mg : Str → Option Value) (base : Heap) (C : Addr) (m : Str) (k n : Nat) (ks : List Str) (gV : List V → List V → List V) (sp : Sp) : Prop where
  ex : ∃ (f : Addr) (fd : FuncData) (ps : List Str) (g : List Value → List Value → List Value), FnG P w K mg base k f fd ps sp ∧ Meth K C m f ∧ KBn K fd ps n ks g gV
/-- a class that is made -/
structure MkC (K : PySem.W.Frag) (mg : Str → Option Value) (x : Str) (C : Addr) : Prop where
  g : mg x = some (.ref C)
  makes : PySem.W.makesIn K C = true
  kp : PySem.W.keepIn K (.ref C) = true
section
variable {P : Program} {w : World} {K : PySem.W.Frag} {mg : Str → Option Value} {base : Heap} {n m qual : Str} {st : Stmt} {ps N : List Str} {k : Nat} {zs : RS} {C : Addr} {kws : List (Str × V)}
theorem DefM.rfng (d : DefM K C m qual st ps) (S : FnScope N ps (defScope st)) (hb : Body P w K mg base N qual st d.f k zs) : FnG P w K mg base (k + 1) d.f d.fd ps (rFn ps.length N zs) :=
  fng_of d.F S (fun vs H Q E h => h.1) fun cd A outer s H1 E1 W vs H Q E c o hW h => by
    have c2 : Cn (fx P w K mg base N qual st d.f cd A outer s H1 E1) (upW fun c d _ H' => E c d H') k := ⟨c.room, c.un, c.gd, c.tk.imp fun c0 d0 σ0 H0 ⟨H2, x2, q⟩ => c.wu _ _ _ _ _ (hW _ _ _ _ q) x2, fun c d σ H H' ⟨H2, x2, q⟩ x => ⟨H2, x2.trans x, q⟩⟩
    exact ((hb cd A outer s H1 E1).run c2 o h.2).le rfn_ends
theorem DefM.rcal (d : DefM K C m qual st ps) (S : FnScope N ps (defScope st)) (hb : Body P w K mg base N qual st d.f k zs) : CalM P w K mg base C m (k + 1) ps [] (rFn ps.length N zs) :=
  ⟨d.f, d.fd, [], d.rfng S hb, d.mt, d.b, .nil⟩
theorem DefMK.rfng (d : DefMK K C m qual st kws) (S : FnScope N ps (defScope st)) (hb : Body P w K mg base N qual st d.f k zs) : FnG P w K mg base (k + 1) d.f d.fd ps (rFn ps.length N zs) := by
  obtain ⟨oc, od, dV, kV, doc, pm, an, cdv, ct, osl, e, lk, hcd, hD, hK⟩ := d.F.ex
  rcases hD with ⟨_, rfl⟩ | ⟨z, _⟩
  · exact fng_of ⟨⟨oc, od, kV, doc, pm, an, cdv, ct, osl, e, lk, hcd⟩, d.F.kp⟩ S (fun vs H Q E h => h.1) fun cd A outer s H1 E1 W vs H Q E c o hW h => by
      have c2 : Cn (fx P w K mg base N qual st d.f cd A outer s H1 E1) (upW fun c d _ H' => E c d H') k := ⟨c.room, c.un, c.gd, c.tk.imp fun c0 d0 σ0 H0 ⟨H2, x2, q⟩ => c.wu _ _ _ _ _ (hW _ _ _ _ q) x2, fun c d σ H H' ⟨H2, x2, q⟩ x => ⟨H2, x2.trans x, q⟩⟩
      exact ((hb cd A outer s H1 E1).run c2 o h.2).le rfn_ends
  · exact absurd rfl z
theorem DefMK.calK {sp : Sp} (d : DefMK K C m qual st kws) (F : FnG P w K mg base k d.f d.fd ps sp) (n : Nat) (ks : List Str) (ms : List (Str × V)) (g : {α : Type} → List α → List α → List α → List α) (hk : kws ≠ []) (hms : ∀ q ∈ ms, q ∈ kws)
    (hrel : ∀ {vs mz zs : List V} {us mv ws : List Value}, Vals vs us → Vals mz mv → Vals zs ws → Vals (g vs mz zs) (g us mv ws))
    (h : ∀ (D : Addr) (doc pm : Value) (an : Option Addr) (cdv ct : Value) (us mv ws : List Value), us.length = n → mv.length = ms.length → ws.length = ks.length →
      KwChain D ((ms.map (·.1)).zip mv) (bindArgs (PySem.W.fnOf m qual (defArgs st) (defBody st) (defScope st) .none (.ref D) doc pm an cdv ct) ⟨us, ks.zip ws⟩) (ps.zip (g us mv ws))) : CalMK P w K mg base C m k n ks (fun vs zs => g vs (ms.map (·.2)) zs) sp := by
  obtain ⟨mv, hb⟩ := d.F.kbinds0 (ps := ps) n ks ms g hk hms hrel h
  exact ⟨d.f, d.fd, ps, _, F, d.mt, hb⟩
theorem CalM.kw {sp : Sp} (Cc : CalM P w K mg base C m k ps [] sp) (d : DefM K C m qual st ps) (n : Nat) (ks : List Str) (g : {α : Type} → List α → List α → List α) (hrel : ∀ {vs zs : List V} {us ws : List Value}, Vals vs us → Vals zs ws → Vals (g vs zs) (g us ws))
    (hb : ∀ (kV doc pm : Value) (an : Option Addr) (cdv ct : Value) (us ws : List Value), us.length = n → ws.length = ks.length → bindArgs (PySem.W.fnOf m qual (defArgs st) (defBody st) (defScope st) .none kV doc pm an cdv ct) ⟨us, ks.zip ws⟩ = pure (ps.zip (g us ws)))
    (F : FnG P w K mg base k d.f d.fd ps sp) : CalMK P w K mg base C m k n ks g sp := by
  obtain ⟨oc2, od2, kV, doc, pm, an, cd, ct, osl2, e, lk2, _⟩ := d.F.ex
  refine ⟨d.f, d.fd, ps, g, F, d.mt, ⟨fun s us ws X l1 l2 => ?_, fun r1 r2 => hrel r1 r2⟩⟩
  rw [e]
  exact .of_eq (hb kV doc pm an cd ct us ws l1 l2)
end
section
variable {X : Cx} {j : Nat} {W : WX} {e a b c o : Expr} {es rest : List Expr} {kws : List Keyword} {σ : St} {H H1 : Hp} {Q : VK} {pos p apos : Pos} {t ta tb to : RX} {tr tk : RA} {n f m : Str} {C : Addr} {sp : Sp} {k : Nat} {ps : List Str} {dvs : List V}
/-- o.f -/
def rFld (C : Addr) (f : Str) (to : RX) : RX := fun σ H Q W => to σ H (fun x H1 => ∃ a dx fs v, x = .ref a ∧ H1 a = some (.ins C dx fs) ∧ fs.lookup f = some v ∧ Q v H1) W
theorem s_fld (cl : Cls X.K C) (na : NoAttr X.K C f) (h : SX X j to o) (hb : attributeBase o f X.env (eval o X.env) = eval o X.env := by rfl) : SX X j (rFld C f to) (.Attribute o f pos) := ⟨fun cn _ _ _ q =>
  .of (pe_fld pe_W hb) fun H1 x => (h.run cn q).t x fun v H2 ⟨H3, x3, a, dx, fs, w, e, ha, hl, q⟩ => ⟨a, C, dx, fs, w, e, x3 _ _ ha, cl, na, hl, H3, x3, q⟩⟩
/-- o.f = e -/
def zFld (C : Addr) (f : Str) (to te : RX) : RS := fun D W σ H => te σ H (fun y H1 => to σ H1 (fun x H2 => ∃ a dx fs, x = .ref a ∧ H2 a = some (.ins C dx fs) ∧ fs.length < 1000 ∧ D.nx σ (upd H2 a (.ins C dx (putF f y fs)))) W) W
theorem z_fld {pos' : Pos} (cl : Cls X.K C) (na : NoAttr X.K C f) (h : SX X j to o) (he : SX X j t e) (hs : swapsWith e (some (.Attribute o f pos')) pos.line X.env = pure false := by rfl) : SS X j (zFld C f to t) (.Assign [.Attribute o f pos'] e pos) := ⟨fun cn _ _ _ _ q =>
  .of (ps_fld pe_W pe_W hs) fun H1 x => (he.run cn q).t x fun y H2 ⟨H3, x3, q⟩ => (h.run cn q).t x3 fun v H4 ⟨H5, x5, a, dx, fs, e, ha, hl, q⟩ => ⟨a, C, dx, fs, e, x5 _ _ ha, cl, na, hl, _, x5.set a _, q⟩⟩
/-- the method found, its frame -/
def rMeth (C : Addr) (m : Str) (sp : Sp) (dvs : List V) (to : RX) (t : RA) : RX := fun σ H Q W => to σ H (fun x H1 => ∃ a dx fs, x = .ref a ∧ H1 a = some (.ins C dx fs) ∧ fs.lookup m = none ∧ t σ H1 (fun vs H2 => sp (x :: (vs ++ dvs)) H2 Q fun c d H' => W c d σ H') W) W
theorem s_meth {pl : Sem Bool} (cl : Cls X.K C) (Cm : CalM X.prog X.w X.K X.mg X.base C m k ps dvs sp) (h : SX X j to o) (ha : SA X j tr (e :: es)) (hkj : k ≤ j := by decide) (hcm : X.calm = true := by rfl)
    (hst : starEach (e :: es) X.env = (false, eval e X.env) :: starEach es X.env := by rfl) (hpl : (backTo pos (starEach es X.env)).any (·.1) = false := by rfl)
    (ht : eval (.Call (.Attribute o m apos) (e :: es) [] pos) X.env = (do
      let ov ← eval o X.env
      standAt apos.atName
      let (f, first) ← holding [ov] (getMethod ov m pl)
      callWith pos f first (backTo pos (starEach (e :: es) X.env)) (backToKw pos (keywordEach [] X.env))) := by rfl) : SX X j (rMeth C m sp dvs to tr) (.Call (.Attribute o m apos) (e :: es) [] pos) := by
  obtain ⟨f, fd, ds, F, hm, hb, hd⟩ := Cm.ex
  refine ⟨fun cn σ H Q q H1 x pins s I => ?_⟩
  refine PySem.W.methodCall_KW (pl := pl) (thn (h.run cn q H1 x pins s I) fun u s1 ⟨y, H2, I2, ry, H3, x3, a, dx, fs, ex, ea, l, q⟩ => ?_) ht
  subst ex
  obtain rfl : u = Value.ref a := ry
  refine getmeth_ok I2 (x3 _ _ ea) cl hm l ?_
  refine PySem.W.callWith_K (first := [.ref a]) (h₀ := X.base) I2.ok.mod.kin hm.kp (thn (ha.run cn q H2 x3 pos pins s1 I2) fun us s2 ⟨vs, H4, I4, r, H5, x5, q2⟩ => ⟨I4.kIn, ?_⟩) hst hpl
  exact run_fngU (us := .ref a :: us) (vs := .ref a :: vs) F (cn.mono hkj) hcm hb hd I4 x5 (.cons rfl r) q2
theorem s_meth0 {pl : Sem Bool} (cl : Cls X.K C) (Cm : CalM X.prog X.w X.K X.mg X.base C m k ps dvs sp) (h : SX X j to o) (hkj : k ≤ j := by decide) (hcm : X.calm = true := by rfl)
    (ht : eval (.Call (.Attribute o m apos) [] [] pos) X.env = (do
      let ov ← eval o X.env
      standAt apos.atName
      let (f, first) ← holding [ov] (getMethod ov m pl)
      callWith pos f first (backTo pos (starEach [] X.env)) (backToKw pos (keywordEach [] X.env))) := by rfl) : SX X j (rMeth C m sp dvs to aNil) (.Call (.Attribute o m apos) [] [] pos) := by
  obtain ⟨f, fd, ds, F, hm, hb, hd⟩ := Cm.ex
  refine ⟨fun cn σ H Q q H1 x pins s I => ?_⟩
  refine PySem.W.methodCall_KW (pl := pl) (thn (h.run cn q H1 x pins s I) fun u s1 ⟨y, H2, I2, ry, H3, x3, a, dx, fs, ex, ea, l, q⟩ => ?_) ht
  subst ex
  obtain rfl : u = Value.ref a := ry
  refine getmeth_ok I2 (x3 _ _ ea) cl hm l ?_
  exact PySem.W.callWith_K0 (first := [.ref a]) I2.kIn hm.kp (run_fngU (us := [.ref a]) (vs := [.ref a]) F (cn.mono hkj) hcm hb hd I2 x3 (.cons rfl .nil) q)
/-- C(..) -/
def rMake (C : Addr) (sp : Sp) (dvs : List V) (t : RA) : RX := fun σ H Q W => t σ H (fun vs H1 => ∀ x dx, H1 x = none → H1 dx = none → dx ≠ x →
  sp (.ref x :: (vs ++ dvs)) (upd (upd H1 dx (.own x)) x (.ins C dx [])) (fun v H2 => v = .non ∧ Q (.ref x) H2) fun c d H' => W c d σ H') W
theorem Around.gd_make {A : Around} (h : A.guards = some []) (C : Addr) (us : List Value) (kw : List (Str × Value)) : (A.under (.builtin "type.__call__" ⟨.ref C :: us, kw⟩)).guards = some [] := by
  simp only [Around.under, h]
  rfl
theorem run_makeU {ds us : List Value} {f : Addr} {fd : FuncData} {vs : List V} {pins : List (Addr × Obj)} {s : Shared} (hmk : PySem.W.makesIn X.K C = true) (hm : Meth X.K C "__init__" f) (F : FnG X.prog X.w X.K X.mg X.base k f fd ps sp) (c : Cn X (upW W) (k + 1)) (hcm : X.calm = true) (hb : Binds X.K fd ps ds) (hd : Vals dvs ds)
    (I : Inv X pins σ H1 s) (x : Ex H H1) (r : Vals vs us)
    (h : ∀ x dx, H x = none → H dx = none → dx ≠ x → sp (.ref x :: (vs ++ dvs)) (upd (upd H dx (.own x)) x (.ins C dx [])) (fun v H2 => v = .non ∧ Q (.ref x) H2) fun c d H' => W c d σ H') :
    wpAny (model X.prog X.w) X.A (call (.ref C) us) (EP X pins σ (up Q)) X.xe s := by
  have f1 := I.hok.fresh (Nat.le_succ s.heap.objs.size)
  have f2 := I.hok.fresh (Nat.le_refl s.heap.objs.size)
  have hq := h (s.heap.objs.size + 1) s.heap.objs.size (x.free f1) (x.free f2) (Nat.ne_of_lt (Nat.lt_succ_self _))
  have I2 := Inv.made (C := C) I
  have x2 : Ex (upd (upd H s.heap.objs.size (.own (s.heap.objs.size + 1))) (s.heap.objs.size + 1) (.ins C s.heap.objs.size [])) (upd (upd H1 s.heap.objs.size (.own (s.heap.objs.size + 1))) (s.heap.objs.size + 1) (.ins C s.heap.objs.size [])) := (x.set _ _).set _ _
  have r2 : Vals (V.ref (s.heap.objs.size + 1) :: (vs ++ dvs)) (Value.ref (s.heap.objs.size + 1) :: (us ++ ds)) := .cons rfl (r.append hd)
  have hl : (Value.ref (s.heap.objs.size + 1) :: us ++ ds).length = ps.length := by
    have e := r2.length
    rw [F.len _ _ _ _ hq] at e
    exact e.symm
  refine wpAny_call (make_map (f := f) I.kIn hmk hm.at_ (beq_iff_eq.mp hm.fn) (codeAny_mono (F.run _ X.stack _ _ ⟨Value.ref (s.heap.objs.size + 1) :: us, []⟩ (Value.ref (s.heap.objs.size + 1) :: (us ++ ds)) _ _ _ _ ((c.room hcm).make C us []) (Around.gd_make c.gd C us [])
    (I2.env0.make C us []) (hb _ (Value.ref (s.heap.objs.size + 1) :: us) I2.kIn hl) r2 x2 hq) fun r s' hq' => ?_))
  rcases r with e | fl
  · exact c.tk e s' (XE.of_call I2 (fun cl d H' ⟨H2, x2, q2⟩ => ⟨H2, x2, q2⟩) hq')
  · cases fl with
    | ret u =>
      obtain ⟨v, H', I3, rv, H4, x4, ev, q3⟩ := I2.after hq'
      subst ev
      exact ⟨rv, ⟨V.ref (s.heap.objs.size + 1), H', I3, rfl, H4, x4, q3⟩⟩
    | next => exact False.elim hq'
    | brk => exact False.elim hq'
    | cont => exact False.elim hq'
theorem s_make (M : MkC X.K X.mg n C) (Cm : CalM X.prog X.w X.K X.mg X.base C "__init__" k ps dvs sp) (h : SA X j tr (e :: es)) (hkj : k + 1 ≤ j := by decide) (hcm : X.calm = true := by rfl) (hg : Gl X n := by rfl) (hdb : (n == ("__debug__" : Str)) = false := by decide)
    (he : starEach (e :: es) X.env = (false, eval e X.env) :: starEach es X.env := by rfl) (hpl : (backTo pos (starEach es X.env)).any (·.1) = false := by rfl) : SX X j (rMake C sp dvs tr) (.Call (.Name n p) (e :: es) [] pos) := by
  obtain ⟨f, fd, ds, F, hm, hb, hd⟩ := Cm.ex
  refine ⟨fun c σ H Q q H1 x pins s I => ?_⟩
  refine wpAny_Call_Name_kw (ld_glob I hg M.g (PySem.W.callWith_K (h₀ := X.base) I.ok.mod.kin M.kp (thn (h.run c q H1 x pos pins s I) fun us s1 ⟨vs, H2, I2, r, H3, x3, q⟩ => ⟨I2.kIn, ?_⟩) he hpl) hdb)
  exact run_makeU M.makes hm F (c.mono hkj) hcm hb hd I2 x3 r q
end
/-! ## ranges of great ints, given to list -/
section
namespace LR
open Sem (wp)
open AutoSeq1 (wpAny_loadPart')
open PySem.F
theorem slot_next : Slot "longrange_iterator" "__next__" "longrange_iterator.__next__" :=
  .of (owner := "longrange_iterator") (n := "__next__") (by rw [typeLookup_type, builtinLookup_eq_fast]; kernel_rfl) (by decide +kernel) (by decide +kernel) (by decide +kernel)
    (by first | exact .inl (by decide +kernel) | exact .inr (by decide +kernel)) (by rw [isSubtype_type]; kernel_rfl)
theorem entry_next : entryFor table "longrange_iterator.__next__" = some Builtin.«longrange_iterator.__next__» := entryFor_of_tree (by kernel_rfl)
theorem args_next (a : Value) : argsOk "longrange_iterator.__next__" ⟨[a], []⟩ := by
  unfold argsOk; kernel_rfl
theorem slot_iter : Slot "longrange_iterator" "__iter__" "longrange_iterator.__iter__" :=
  .of (owner := "longrange_iterator") (n := "__iter__") (by rw [typeLookup_type, builtinLookup_eq_fast]; kernel_rfl) (by decide +kernel) (by decide +kernel) (by decide +kernel)
    (by first | exact .inl (by decide +kernel) | exact .inr (by decide +kernel)) (by rw [isSubtype_type]; kernel_rfl)
abbrev IsLong (h : Heap) (it : Addr) (x left step : Int) : Prop := h.get? it = some { cls := .type "longrange_iterator", dict := none, data := .fields #[rawInt x, rawInt left, rawInt step], slots := #[] }
theorem meets_next (it : Addr) (x left step : Int) (hc0 : ¬left ≤ 0) :
    Meets (Builtin.«longrange_iterator.__next__» ⟨[.ref it], []⟩) (fun _ R s => s.heap.get? it = some { cls := .type "longrange_iterator", dict := none, data := .fields #[rawInt x, rawInt left, rawInt step], slots := #[] } ∧
      R (.ok (.ret (Value.int x s.toks))) { s with heap := (s.heap.update it (Obj.mapFields fun y => y.setIfInBounds 0 (rawInt (x + step)))).update it (Obj.mapFields fun y => y.setIfInBounds 1 (rawInt (left - 1))), toks := s.toks + 1 }) :=
  .of_wp fun prog w A R s h => by obtain ⟨hp, g, d, tk, os⟩ := s; obtain ⟨hl, h⟩ := h; wp_walk; exact ⟨_, rfl, h⟩
section
variable {prog : Program} {w : World} {A : Around} {E : Value → Shared → Prop} {s : Shared}
theorem entry_iter : entryFor table "longrange_iterator.__iter__" = some Builtin.«dict_keyiterator.__iter__» :=
  entryFor_alias (id' := "dict_keyiterator.__iter__") (by kernel_rfl) (by first | rfl | decide +kernel | (unfold String.splitOn; simp +decide [String.splitOnAux])) (by decide +kernel) (by kernel_rfl)
theorem args_iter (a : Value) : argsOk "longrange_iterator.__iter__" ⟨[a], []⟩ := by
  unfold argsOk; kernel_rfl
theorem pyIter_long {it : Addr} {x left step : Int} {Q : Value → Shared → Prop} (hit : IsLong s.heap it x left step) (h : Q (.ref it) s) : wpAny (model prog w) A (pyIter (.ref it)) Q E s := by
  have hT : s.TypeIs (.ref it) "longrange_iterator" := ⟨_, hit, rfl⟩
  refine wpAny_pyIter_slot hT slot_iter (wpAny_call_entry slot_iter hT entry_iter ?_ (args_iter _))
  show wpAny _ _ (ret (.ref it)) _ _ s
  exact wpAny_pure ⟨_, rfl, "longrange_iterator", _, hT, slot_next.lookup, h⟩
theorem pyNext_item {it : Addr} {x left step : Int} {Q : Option Value → Shared → Prop} (hit : IsLong s.heap it x left step) (hleft : 0 < left)
    (hQ : ∀ h', IsLong h' it (x + step) (left - 1) step → Heap.SameBut it s.heap h' → Q (some (.int x s.toks)) { s with heap := h', toks := s.toks + 1 }) :
    wpAny (model prog w) A (pyNext (.ref it)) Q E s := by
  have hT : s.TypeIs (.ref it) "longrange_iterator" := ⟨_, hit, rfl⟩
  unfold pyNext
  refine wpAny_bind (wpAny_attempt (wpAny_callSpecial?_slot (name := Str.ofString "__next__") hT slot_next
    (call_meets slot_next hT entry_next (args_next _) (meets_next it x left step (by omega)) ⟨hit, ?_⟩)))
  exact wpAny_pure (hQ _ (Heap.get?_update_self _ (Heap.get?_update_self _ hit rfl) rfl) ((Heap.SameBut.update ..).trans (Heap.SameBut.update ..)))
theorem pyNext_end {it : Addr} {x left step : Int} {Q : Option Value → Shared → Prop} (hh : A.handled = none) (hit : IsLong s.heap it x left step) (hleft : left ≤ 0)
    (hQ : ∀ h', Heap.ExtBut it s.heap h' → Q none { s with heap := h' }) : wpAny (model prog w) A (pyNext (.ref it)) Q E s := by
  have hT : s.TypeIs (.ref it) "longrange_iterator" := ⟨_, hit, rfl⟩
  unfold pyNext
  refine wpAny_bind (wpAny_attempt (wpAny_callSpecial?_slot (name := Str.ofString "__next__") hT slot_next
    (wpAny_call_entry slot_next hT entry_next ?_ (args_next _))))
  unfold Builtin.«longrange_iterator.__next__»
  refine wpAny_bind (wpAny_of_eq (a := #[some (.ref it)]) (by kernel_rfl) ?_)
  show wpAny _ _ (Builtin.Iterators_pickling.intField _ (.ref it) 0 >>= _) _ _ s
  refine wpAny_bind ?_
  unfold Builtin.Iterators_pickling.intField
  refine wpAny_bind (wpAny_field hit rfl (x := rawInt x) rfl (wpAny_pure ?_))
  refine wpAny_bind (wpAny_bind (wpAny_field hit rfl (x := rawInt left) rfl (wpAny_pure ?_)))
  refine wpAny_bind (wpAny_bind (wpAny_field hit rfl (x := rawInt step) rfl (wpAny_pure ?_)))
  show wpAny _ _ (if left ≤ 0 then _ else _) _ _ s
  rw [if_pos hleft]
  refine wpAny_bind (wpAny_rule ?_)
  refine wpAny_bind ?_
  show wpAny _ _ (newExc (.type "StopIteration") [] >>= _) _ _ _
  refine wpAny_bind ?_
  simp only [newExc, newTuple]
  refine wpAny_bind (wpAny_newObj_type ?_ (by size_fits))
  refine wpAny_bind (m := firstArgMember _ _) (wpAny_of_eq (a := Value.none) (by first | rfl | (simp only [firstArgMember]; rfl)) ?_)
  refine wpAny_newObj_type ?_ (by size_fits)
  simp only [raiseNew]
  refine wpAny_pure (wpAny_bind (wpAny_bind (wpAny_handled ?_)))
  first | rw [show A.in1.handled = none from hh] | rw [hh]
  refine wpAny_throw ?_
  refine wpAny_bind (wpAny_isInstance (T := "StopIteration") (b := true) ⟨_, Heap.get?_push_size _ rfl, rfl⟩ isSubtype_stop ?_)
  exact wpAny_pure (hQ _ (((Heap.ExtBut.refl it s.heap).push _).push _))
theorem walks (hh : A.handled = none) (I : Addr) (a c : Int) (n : Nat) :
    Walks prog w A I [I] [I] n (fun i v => ∃ t, v = .int (a + i * c) t) (fun i h => IsLong h I (a + (i : Nat) * c) ((n : Int) - (i : Nat)) c) where
  sub := fun _ hb => hb
  frame := fun _ _ _ st hk => hk I (by simp) _ st
  item := fun i s Q E hi st hQ => by
    refine pyNext_item st (by omega) fun h' hit' hs' => ?_
    refine hQ _ h' _ ⟨_, rfl⟩ ?_ fun b o hb e => hs'.extBut b o (fun h => hb (by simp [h])) e
    have e1 : a + ((i + 1 : Nat) : Int) * c = a + (i : Int) * c + c := by push_cast; rw [Int.add_mul, Int.one_mul, Int.add_assoc]
    have e2 : (n : Int) - ((i + 1 : Nat) : Int) = (n : Int) - (i : Int) - 1 := by push_cast; omega
    rw [e1, e2]; exact hit'
  done := fun s Q E st hQ => pyNext_end hh st (by omega) fun h' he' => hQ h' s.toks fun b o hb e => he' b o (fun h => hb (by simp [h])) e
  self := fun _ _ _ _ st hQ => pyIter_long st hQ
theorem pyIter_range {r : Addr} {a b c : Int} {t u v : Tok} {Q : Value → Shared → Prop} (hr : IsRange s.heap r a b c t u v) (hbig : Builtin.Range.small a b c = false)
    (hQ : Q (.ref s.heap.objs.size) { s with heap := s.heap.push { cls := .type "longrange_iterator", data := .fields #[rawInt a, rawInt (Builtin.Range.rangeSize a b c), rawInt c] } }) :
    wpAny (model prog w) A (pyIter (.ref r)) Q E s := by
  have hT : s.TypeIs (.ref r) "range" := ⟨_, hr, rfl⟩
  refine wpAny_pyIter_slot hT F.slot_range_iter (call_meets F.slot_range_iter hT F.entry_range_iter (F.args_range_iter_1 _)
    (AutoRange.range___iter___range_0 r a b c t u v (by unfold Builtin.Range.small at hbig; simp only [hbig]; rfl)) ⟨hr, ?_⟩)
  unfold Builtin.Range.small at hbig
  simp only [hbig]
  exact ⟨"longrange_iterator", _, ⟨_, Heap.get?_push_size _ rfl, rfl⟩, slot_next.lookup, hQ⟩
theorem extend_range {R : Result → Shared → Prop} {r : Addr} {a b c : Int} {t u v : Tok} {n : Nat} (hh : A.handled = none) (hr : IsRange s.heap r a b c t u v) (hbig : Builtin.Range.small a b c = false)
    (hn : Builtin.Range.rangeSize a b c = n) (hlen : n ≤ 2 ^ 24) (S : Addr) (res : Value) (c₀ : Nat) (hS : s.heap.get? S = some { cls := .type "list", data := .seq #[] c₀ })
    (hR : ∀ h' tk acc' c', (∀ b o, b ≠ S → s.heap.get? b = some o → h'.get? b = some o) → h'.get? S = some { cls := .type "list", dict := none, data := .seq acc' c', slots := #[] } →
      ItemsOf (fun i v => ∃ t, v = .int (a + i * c) t) acc' n → R (.ok (.ret res)) { s with heap := h', toks := tk }) :
    wpAny (model prog w) A.in1 (Builtin.List.listExtendWith (.ref S) (.ref r) res)
      (fun fin s' => match fin with | .done f => R (.ok f) s' | .again c' => c'.quiet = true ∧ codeAny (model prog w) A c' R s') (fun e s' => R (.error e) s') s := by
  have hSr : S ≠ r := fun e => by rw [e, hr] at hS; simp at hS
  have hSlt : S < s.heap.objs.size := Heap.lt_size hS
  have hSI : S ≠ s.heap.objs.size := Nat.ne_of_lt hSlt
  have hSf : S ∉ [s.heap.objs.size] := fun hm => hSI (List.mem_singleton.mp hm)
  have W := (walks (prog := prog) (w := w) (A := A.in1) hh s.heap.objs.size a c n).toS
  have key : ∀ (h : Heap) (c₁ tk : Nat), IsLong h s.heap.objs.size (a + ((0 : Nat) : Int) * c) ((n : Int) - ((0 : Nat) : Int)) c → (∀ b o, b ≠ S → s.heap.get? b = some o → h.get? b = some o) →
      h.get? S = some { cls := .type "list", data := .seq #[] c₁ } → codeAny (model prog w) A (.builtin "list.extend.loop" ⟨[.ref S, .ref s.heap.objs.size, res], []⟩) R { s with heap := h, toks := tk } := by
    intro h c₁ tk hit hk hS₁
    refine codeAny_extend_loopS W (by rw [sizeLine_eq]; omega) S hSf res n 0 _ #[] c₁ rfl (Nat.zero_le _) hit hS₁ (ItemsOf.nil _) fun s' acc' c' hm hS' hacc => ?_
    rw [Moved.eq_with hm]
    refine hR s'.heap s'.toks acc' c' (fun b o hb e => hm.heap b o (fun hmem => ?_) (hk b o hb e)) hS' hacc
    rcases List.mem_cons.mp hmem with e' | hmem
    · exact hb e'
    · exact absurd (Heap.lt_size e) (by rw [List.mem_singleton.mp hmem]; exact Nat.lt_irrefl _)
  unfold Builtin.List.listExtendWith
  refine wpAny_bind (wpAny_typeOf (T := "range") ⟨_, hr, rfl⟩ ?_)
  have h1 : Builtin.List.listSameRef (.ref S) (.ref r) = false := by simp [Builtin.List.listSameRef, hSr]
  have h2 : (Value.type "range" == Value.type "list") = false := by decide
  have h3 : (Value.type "range" == Value.type "tuple") = false := by decide
  simp only [h1, h2, h3, Bool.or_false, Bool.false_eq_true, if_false]
  refine wpAny_bind (pyIter_range hr hbig ?_)
  refine wpAny_bind (wpAny_holding (wpAny_hint_range (n := n) (Heap.get?_push_of_some _ hr) hn hlen ?_))
  have hit₁ : IsLong (s.heap.push { cls := .type "longrange_iterator", data := .fields #[rawInt a, rawInt (Builtin.Range.rangeSize a b c), rawInt c] }) s.heap.objs.size (a + ((0 : Nat) : Int) * c) ((n : Int) - ((0 : Nat) : Int)) c := by
    show IsLong _ _ _ _ _; rw [hn]; simpa using Heap.get?_push_size _ rfl
  have hS₁ := Heap.get?_push_of_some { cls := .type "longrange_iterator", data := .fields #[rawInt a, rawInt (Builtin.Range.rangeSize a b c), rawInt c] } hS
  refine wpAny_ite_split (fun _ => ?_) (fun _ => wpAny_pure ⟨plainId_quiet F.plain_extend_loop _, key _ c₀ _ hit₁ (fun b o _ e => Heap.get?_push_of_some _ e) hS₁⟩)
  refine wpAny_bind (wpAny_rule ?_)
  refine wpAny_bind ?_
  show wpAny _ _ (updateSeq S (·.push .none) >>= fun _ => updateSeq S (·.pop)) _ _ _
  refine wpAny_bind (wpAny_updateSeq hS₁ rfl ?_)
  have hS₂ := Heap.get?_update_self (Obj.mapSeq (·.push Value.none)) hS₁ rfl
  refine wpAny_updateSeq (hz := by seq_fits) hS₂ rfl ?_
  have hS₃ := Heap.get?_update_self (Obj.mapSeq (·.pop)) hS₂ rfl
  refine wpAny_pure ⟨plainId_quiet F.plain_extend_loop _, key _ _ _ ?_ (fun b o hb e => ?_) hS₃⟩
  · exact (Heap.get?_update_other _ _ hSI).trans ((Heap.get?_update_other _ _ hSI).trans hit₁)
  · exact (Heap.get?_update_other _ _ (Ne.symm hb)).trans ((Heap.get?_update_other _ _ (Ne.symm hb)).trans (Heap.get?_push_of_some _ e))
theorem list_init {R : Result → Shared → Prop} {r : Addr} {a b c : Int} {t u v : Tok} {n : Nat} (hh : A.handled = none) (hr : IsRange s.heap r a b c t u v) (hbig : Builtin.Range.small a b c = false)
    (hn : Builtin.Range.rangeSize a b c = n) (hlen : n ≤ 2 ^ 24) (S : Addr) (hS : s.heap.get? S = some { cls := .type "list", data := .seq #[] })
    (hR : ∀ h' tk acc' c', (∀ b o, b ≠ S → s.heap.get? b = some o → h'.get? b = some o) → h'.get? S = some { cls := .type "list", dict := none, data := .seq acc' c', slots := #[] } →
      ItemsOf (fun i v => ∃ t, v = .int (a + i * c) t) acc' n → R (.ok (.ret .none)) { s with heap := h', toks := tk }) :
    wpAny (model prog w) A.in1 (Builtin.«list.__init__» ⟨[.ref S, .ref r], []⟩)
      (fun fin s' => match fin with | .done f => R (.ok f) s' | .again c' => c'.quiet = true ∧ codeAny (model prog w) A c' R s') (fun e s' => R (.error e) s') s := by
  have hSr : S ≠ r := fun e => by rw [e, hr] at hS; simp at hS
  show wpAny _ _ (do let old ← Builtin.List.listItems (.ref S); Builtin.List.listUpdate (.ref S) (fun _ => #[]); letGo old.toList.reverse; Builtin.List.listExtendWith (.ref S) (.ref r) .none) _ _ s
  refine wpAny_bind ?_
  unfold Builtin.List.listItems
  refine wpAny_bind (wpAny_seqItems hS rfl (wpAny_pure ?_))
  show wpAny _ _ (updateSeq S (fun _ => #[]) >>= fun _ => letGo (#[] : Array Value).toList.reverse >>= fun _ => Builtin.List.listExtendWith (.ref S) (.ref r) .none) _ _ s
  refine wpAny_bind (wpAny_updateSeq hS rfl ?_)
  have hS₂ := Heap.get?_update_self (Obj.mapSeq (fun _ => (#[] : Array Value))) hS rfl
  have oth : ∀ b o, b ≠ S → s.heap.get? b = some o → (s.heap.update S (Obj.mapSeq (fun _ => (#[] : Array Value)))).get? b = some o :=
    fun b o hb e => (Heap.get?_update_other _ _ (Ne.symm hb)).trans e
  refine wpAny_bind (wpAny_letGo ?_)
  refine extend_range hh (oth r _ (Ne.symm hSr) hr) hbig hn hlen S .none _ hS₂ fun h' tk acc' c' hk hS' hacc => ?_
  exact hR h' tk acc' c' (fun b o hb e => hk b o hb (oth b o hb e)) hS' hacc
theorem call_list {Q : Value → Shared → Prop} {r : Addr} {a b c : Int} {t u v : Tok} {n : Nat} (hh : A.handled = none) (hr : IsRange s.heap r a b c t u v)
    (hn : Builtin.Range.rangeSize a b c = n) (hlen : n ≤ 2 ^ 24)
    (hQ : ∀ h' tk acc' c', (∀ b o, s.heap.get? b = some o → h'.get? b = some o) →
      h'.get? s.heap.objs.size = some { cls := .type "list", dict := none, data := .seq acc' c', slots := #[] } → ItemsOf (fun i v => ∃ t, v = .int (a + i * c) t) acc' n → Q (.ref s.heap.objs.size) { s with heap := h', toks := tk }) :
    wpAny (model prog w) A (call (.type "list") [.ref r]) Q E s := by
  cases hs : Builtin.Range.small a b c with
  | true => exact call_list_range hh hr hs hn hlen hQ
  | false =>
    refine callType_codes (Q₁ := fun obj s₁ => obj = .ref s.heap.objs.size ∧ s₁ = { s with heap := s.heap.push { cls := .type "list", data := .seq #[] } }) F.called_list (F.typeCall_list_1 _) F.entry_list_init
      (code_list_new _ ⟨rfl, rfl⟩) fun obj s₁ h₁ => ?_
    obtain ⟨rfl, rfl⟩ := h₁
    have hS : (s.heap.push { cls := .type "list", data := .seq #[] }).get? s.heap.objs.size = some { cls := .type "list", data := .seq #[] } := Heap.get?_push_size _ rfl
    refine ⟨⟨_, hS, rfl⟩, F.args_list_init_2 _ _, list_init (A := A.in1) hh (Heap.get?_push_of_some _ hr) hs hn hlen _ hS fun h' tk acc' c' hk hS' hacc => ?_⟩
    exact ⟨rfl, hQ h' tk acc' c' (fun b o e => hk b o (Nat.ne_of_lt (Heap.lt_size e)) (Heap.get?_push_of_some _ e)) hS' hacc⟩
end
end LR
end
section
variable {X : Cx} {j : Nat} {a b : Expr} {ta tb : RX} {p pos p2 pos2 : Pos}
/-- list(range(a, b)), ints of any size -/
def rLstRg (ta tb : RX) : RX := fun σ H Q W => ta σ H (fun x H1 => tb σ H1 (fun y H2 => ∃ i k, x = .int i ∧ y = .int k ∧ k - i ≤ 100000 ∧ ∀ q, H2 q = none → Q (.ref q) (upd H2 q (.lst (rgV i k)))) W) W
theorem rg_prg (hg : Gl X "range") (hm : X.mg "range" = none) (na : starEach [a, b] X.env = (false, eval a X.env) :: starEach [b] X.env) (nb : starEach [b] X.env = (false, eval b X.env) :: starEach [] X.env) (hp : (backTo pos (starEach [b] X.env)).any (·.1) = false) :
    PRg X (.Call (.Name "range" p) [a, b] [] pos) (tRg2 (tWE X a) (tWE X b)) := prg_2 hg hm pe_W pe_W na nb hp
theorem s_lstRg (hm : X.mg "list" = none) (hr : X.mg "range" = none) (ha : SX X j ta a) (hb : SX X j tb b) (hc : X.calm = true := by rfl) (hg : Gl X "list" := by rfl) (hg2 : Gl X "range" := by rfl)
    (na : starEach [a, b] X.env = (false, eval a X.env) :: starEach [b] X.env := by rfl) (nb : starEach [b] X.env = (false, eval b X.env) :: starEach [] X.env := by rfl) (hp : (backTo pos (starEach [b] X.env)).any (·.1) = false := by rfl)
    (nc : starEach [.Call (.Name "range" p) [a, b] [] pos] X.env = (false, eval (.Call (.Name "range" p) [a, b] [] pos) X.env) :: starEach [] X.env := by rfl) :
    SX X j (rLstRg ta tb) (.Call (.Name "list" p2) [.Call (.Name "range" p) [a, b] [] pos] [] pos2) := ⟨fun cn σ H Q q H1 x pins s I => by
  have he := rg_prg (X := X) (p := p) (pos := pos) hg2 hr na nb hp
  refine Call_ (ld_blt I hg hm boot_list (PyProof.Rows.callWith_type1 (args_cons (thn (he pins s σ H1 (fun i k H2 => k - i ≤ 100000 ∧ ∀ q, H2 q = none → up Q (.ref q) (upd H2 q (.lst (rgV i k)))) I ?_) fun x s1 ⟨r, i, k, t, u, v, H2, ex, hr, I1, ok, q⟩ => args_nil ?_) nc) nc))
  · refine (ha.run cn q).t x fun y H3 ⟨H4, x4, q⟩ => (hb.run cn q).t x4 fun z H5 ⟨H6, x6, i, k, e1, e2, hz, q⟩ => ⟨i, k, e1, e2, hz, fun q0 hq => ⟨_, x6.set q0 _, q q0 (x6.free hq)⟩⟩
  · subst ex
    refine LR.call_list (n := (k - i).toNat) (I1.ok.hd hc) hr (rangeSize_nat i k) (by omega) fun h' tk acc c' hk e' hi => ?_
    refine ⟨.ref s1.heap.objs.size, upd H2 s1.heap.objs.size (.lst (rgV i k)), I1.laid hk (Nat.le_refl _) (show ObjOk X.prog X.w _ _ _ (.lst (rgV i k)) from ⟨?_, acc.toList, c', vals_rg hi, ?_⟩), rfl, q _ (I1.hok.fresh (Nat.le_refl _))⟩
    · rw [rgV_length, sizeLine_eq]; omega
    · rw [Array.toArray_toList]; exact e'⟩
end
section
variable {X : Cx} {j : Nat} {W : WX} {e a b c o : Expr} {es rest : List Expr} {σ : St} {H H1 : Hp} {Q : VK} {pos p apos cpos p2 : Pos} {t ta tb to : RX} {tr : RA} {n name : Str} {C : Addr} {k : Nat}
/-! ## slices -/
abbrev RP := St → Hp → (Option Int → Hp → Prop) → WX → Prop
structure SP (X : Cx) (j : Nat) (t : RP) (oe : Option Expr) : Prop where
  ex : ∃ to, PO X oe to ∧ ∀ {W}, Cn X (upW W) j → ∀ {σ H Q}, t σ H Q W → ∀ H1, Ex H H1 → ∀ F : Option Int → Hp → Prop, (∀ i H2 H', Ex H' H2 → Q i H' → F i H2) → to σ H1 F
def pNo : RP := fun _ H Q _ => Q none H
def pAt (t : RX) : RP := fun σ H Q W => t σ H (fun x H1 => match x with
  | .int i => Q (some i) H1
  | _ => False) W
theorem p_no : SP X j pNo none := ⟨_, po_none, fun c σ H Q q H1 x F k => k _ _ _ x q⟩
theorem p_at (h : SX X j t e) : SP X j (pAt t) (some e) := ⟨_, po_some pe_W, fun c σ H Q q H1 x F k => (h.run c q).t x fun v H2 ⟨H3, x3, q⟩ => by
  cases v <;> first | exact ⟨_, rfl, k _ _ _ x3 q⟩ | exact q.elim⟩
abbrev RSl := V → Option Int → Option Int → Hp → VK → Prop
def SSl (X : Cx) (r : RSl) : Prop := ∃ r0, SlR X r0 ∧ ∀ x lo hi H Q, r x lo hi H Q → ∀ H1, Ex H H1 → r0 x lo hi H1 (up Q)
def rSl (r : RSl) (t : RX) (lo hi : RP) : RX := fun σ H Q W => t σ H (fun x H1 => lo σ H1 (fun l H2 => hi σ H2 (fun u H3 => r x l u H3 Q) W) W) W
theorem s_sl {r : RSl} {tl th : RP} {lo hi : Option Expr} (hr : SSl X r) (h : SX X j t e) (hl : SP X j tl lo) (hh : SP X j th hi) : SX X j (rSl r t tl th) (.Subscript e (.Slice lo hi none p2) pos) := by
  obtain ⟨r0, h0, k⟩ := hr
  obtain ⟨t1, p1, k1⟩ := hl.ex
  obtain ⟨t2, p2, k2⟩ := hh.ex
  exact ⟨fun c σ H Q q => .of (pe_slice h0 pe_W p1 p2) fun H1 x => (h.run c q).t x fun v H2 ⟨H3, x3, q⟩ => k1 c q H2 x3 _ fun l H4 H5 x5 q => k2 c q H4 x5 _ fun u H6 H7 x7 q => k _ _ _ _ _ q H6 x7⟩
def slL (K : PySem.W.Frag) : RSl := fun x lo hi H Q => ∃ a xs, x = .ref a ∧ SqL K H a xs ∧ ∀ p, H p = none → Q (.ref p) (upd H p (.lst (cutV xs lo hi)))
theorem l_lst : SSl X (slL X.K) := ⟨_, sl_list, fun _ _ _ H _ ⟨a, xs, e, h, q⟩ H1 x => ⟨a, xs, e, x.sqL h, fun p n => ⟨_, x.set p _, q p (x.free n)⟩⟩⟩
/-! ## equality of data -/
def oEqD (K : PySem.W.Frag) : RO := fun x y H Q => ∃ d e, Dp K H x d ∧ Dp K H y e ∧ SeqAt.shaped d = true ∧ SeqAt.shaped e = true ∧ Q (.bl (PyData.eqv d e)) H
def oNeD (K : PySem.W.Frag) : RO := fun x y H Q => ∃ d e, Dp K H x d ∧ Dp K H y e ∧ SeqAt.shaped d = true ∧ SeqAt.shaped e = true ∧ Q (.bl (!PyData.eqv d e)) H
theorem SO.of {f : Value → Value → Sem Value} {r r0 : RO} (h : OpR X f r0) (k : ∀ x y H Q, r x y H Q → ∀ H1, Ex H H1 → r0 x y H1 (up Q)) : SO X f r := fun x y H Q q => .of h fun H1 e => k _ _ _ _ q H1 e
/-- with more room -/
def SOr2 (X : Cx) (f : Value → Value → Sem Value) (r : RO) : Prop := X.A.units + 64 < cLine → SO X f r
theorem b_cmpr2 {op : CmpOp} {r : RO} (ho : SOr2 X (compareOp op) r) (ha : SX X j ta a) (hb : SX X j tb b) (hm : behindInMarks op b = false := by first | exact nomark _ | with_unfolding_all rfl) : SB X j (tCmp r ta tb) (.Compare a [op] [b] pos) :=
  ⟨fun c _ _ _ h => (b_cmp (ho c.units) ha hb hm).run c h⟩
theorem s_cmpr2 {op : CmpOp} {r : RO} (ho : SOr2 X (compareOp op) r) (ha : SX X j ta a) (hb : SX X j tb b) (hm : behindInMarks op b = false := by first | exact nomark _ | with_unfolding_all rfl) : SX X j (rBin r ta tb) (.Compare a [op] [b] pos) :=
  ⟨fun c _ _ _ h => (s_cmp (ho c.units) ha hb hm).run c h⟩
theorem o_eqD : SOr2 X (compareOp .Eq) (oEqD X.K) := fun hu => .of (op_eqD hu) fun x y H Q ⟨d, e, h1, h2, s1, s2, q⟩ H1 x => ⟨d, e, Dp.ex x h1, Dp.ex x h2, s1, s2, H, x, q⟩
theorem o_neD : SOr2 X (compareOp .NotEq) (oNeD X.K) := fun hu => .of (op_neD hu) fun x y H Q ⟨d, e, h1, h2, s1, s2, q⟩ H1 x => ⟨d, e, Dp.ex x h1, Dp.ex x h2, s1, s2, H, x, q⟩
/-! ## tuples -/
/-! ## methods of built-in types -/
abbrev RM := V → List V → Hp → VK → Prop
def SM (X : Cx) (id : String) (r : RM) : Prop := ∃ r0, MtR X id r0 ∧ ∀ x vs H Q, r x vs H Q → ∀ H1, Ex H H1 → r0 x vs H1 (up Q)
theorem tyV_ex {K : PySem.W.Frag} {T : String} {x : V} {H H1 : Hp} (e : Ex H H1) (h : tyV K T x H) : tyV K T x H1 := by
  cases x with
  | ref p =>
    rcases h with ⟨e1, xs, h⟩ | h | ⟨e1, h⟩ | ⟨e1, S, n, h⟩
    · exact .inl ⟨e1, xs, e.sqL h⟩
    · exact .inr (.inl h)
    · rcases h with ⟨kvs, h⟩ | ⟨kvs, h⟩
      · exact .inr (.inr (.inl ⟨e1, .inl ⟨kvs, e _ _ h⟩⟩))
      · exact .inr (.inr (.inl ⟨e1, .inr ⟨kvs, e _ _ h⟩⟩))
    · exact .inr (.inr (.inr ⟨e1, S, n, e _ _ h⟩))
  | _ => exact h
def rBm (K : PySem.W.Frag) (T : String) (r : RM) (to : RX) (t : RA) : RX := fun σ H Q W => to σ H (fun x H1 => tyV K T x H1 ∧ t σ H1 (fun vs H2 => r x vs H2 Q) W) W
theorem s_bm {T id : String} {r : RM} (pa : PlainAttrs T) (slot : Slot T name id) (hty : typeOf (.builtin id) = pure (.type "method_descriptor")) (hm : SM X id r) (ho : SX X j to o) (ha : SA X j tr (e :: es))
    (hbase : attributeBase o name X.env (eval o X.env) = eval o X.env := by rfl)
    (hfew : ((backTo cpos (starEach (e :: es) X.env)).all (fun x => !x.1) && (backToKw cpos (keywordEach [] X.env)).all (fun x => x.1.isSome)
      && decide ((e :: es).length + ([] : List Keyword).length + (if ([] : List Keyword).isEmpty then 0 else 1) < 30)) = true := by rfl)
    (hline : (apos.endLine == cpos.line) = true := by rfl) (hs : starEach (e :: es) X.env = (false, eval e X.env) :: starEach es X.env := by rfl) (hplain : (backTo cpos (starEach es X.env)).any (·.1) = false := by rfl) : SX X j (rBm X.K T r to tr) (.Call (.Attribute o name apos) (e :: es) [] cpos) := by
  obtain ⟨r0, h0, k⟩ := hm
  exact ⟨fun c σ H Q q => .of (pe_bm pa slot hty h0 pe_W pa_W hbase hfew hline hs hplain) fun H1 x => (ho.run c q).t x fun v H2 ⟨H3, x3, ty, q⟩ => ⟨tyV_ex x3 ty, (ha.run c q).t x3 fun vs H4 ⟨H5, x5, q⟩ => k _ _ _ _ q H4 x5⟩⟩
def mApp : RM := fun x vs H Q => ∃ l xs y, x = .ref l ∧ vs = [y] ∧ H l = some (.lst xs) ∧ xs.length ≤ 100000 ∧ Q .non (upd H l (.lst (xs ++ [y])))
theorem m_app : SM X "list.append" mApp := ⟨_, mt_append, fun x vs H Q ⟨l, xs, y, e1, e2, h, hz, q⟩ H1 x => ⟨l, xs, y, e1, e2, x _ _ h, Nat.lt_of_le_of_lt hz (by decide), _, x.set l _, q⟩⟩
def mRem : RM := fun x vs H Q => ∃ (l : Addr) (ns : List Int) (k : Int) (i : Nat), x = .ref l ∧ vs = [.int k] ∧ H l = some (.lst (ns.map V.int)) ∧ ns[i]? = some k ∧ (∀ m : Nat, m < i → ns[m]? ≠ some k) ∧ Q .non (upd H l (.lst ((ns.eraseIdx i).map V.int)))
theorem m_rem : SM X "list.remove" mRem := ⟨_, mt_remove, fun x vs H Q ⟨l, ns, k, i, e1, e2, h, h1, h2, q⟩ H1 x => ⟨l, ns, k, i, e1, e2, x _ _ h, h1, h2, _, x.set l _, q⟩⟩
/-! ## max, min, sorted of a list -/
/-! ## an instance's own len, repr, == -/
theorem run_fngA {vs : List V} {f : Addr} {fd : FuncData} {ps : List Str} {sp : Sp} {us : List Value} {pins : List (Addr × Obj)} {s : Shared} {A : Around} (F : FnG X.prog X.w X.K X.mg X.base k f fd ps sp) (hr : Room k A) (hg : A.guards = some []) (hf : A.frames = X.A.frames) (tk : Takes X (upW W))
    (hb : Binds X.K fd ps []) (I : Inv X pins σ H1 s) (x : Ex H H1) (r : Vals vs us) (h : sp vs H Q fun c d H' => W c d σ H') : wpAny (model X.prog X.w) A (call (.ref f) us) (EP X pins σ (up Q)) X.xe s := by
  have hl : us.length = ps.length := r.length.symm.trans (F.len _ _ _ _ h)
  have e0 : Env0 X.prog X.w X.K X.mg X.base A X.stack s H1 := by
    have e := I.env0
    exact ⟨by rw [hf]; exact e.frames, e.mod, e.bs, e.bsz, e.funs, e.frf, e.hok, e.bare⟩
  refine wpAny_call (codeAny_mono (F.run A X.stack s H1 ⟨us, []⟩ us vs H Q _ hr hg e0 (by
    have := hb s us I.kIn (by simpa using hl)
    simpa using this) r x h) fun res s' q => ?_)
  rcases res with er | fl
  · exact tk er s' (XE.of_call I (fun cl d H' ⟨H2, x2, q2⟩ => ⟨H2, x2, q2⟩) q)
  · cases fl with
    | ret u => exact I.after q
    | _ => exact q.elim
/-- len(o), o of the class C with its own __len__ -/
def rLenO (C : Addr) (sp : Sp) (to : RX) : RX := fun σ H Q W => to σ H (fun x H1 => ∃ a dx fs, x = .ref a ∧ H1 a = some (.ins C dx fs) ∧ sp [x] H1 (fun v H2 => match v with
  | .int n => (0 ≤ n ∧ n < 2 ^ 63) ∧ Q (.int n) H2
  | _ => False) fun c d H' => W c d σ H') W
theorem inst_of {pins : List (Addr × Obj)} {s : Shared} {a dx : Addr} {fs : List (Str × V)} (I : Inv X pins σ H s) (h : H a = some (.ins C dx fs)) : ∃ m od, Fr X.base X.env.locals s.heap m ∧ PySem.W.InstAt s.heap a (PySem.W.instObj C dx) C od := by
  obtain ⟨mA, J, _⟩ := ins_get I.hok h
  obtain ⟨od, J, _⟩ := J.look
  obtain ⟨m, hF⟩ := I.fr
  exact ⟨m, _, hF, J⟩
theorem s_lenO {sp : Sp} {ps : List Str} (Cm : CalM X.prog X.w X.K X.mg X.base C "__len__" k ps [] sp) (hm : X.mg "len" = none) (h : SX X j to e) (hkj : k + 1 ≤ j := by decide) (hcm : X.calm = true := by rfl) (hg : Gl X "len" := by rfl)
    (he : starEach [e] X.env = (false, eval e X.env) :: starEach [] X.env := by rfl) (hpl : (backTo pos (starEach [] X.env)).any (·.1) = false := by rfl) : SX X j (rLenO C sp to) (.Call (.Name "len" p) [e] [] pos) := by
  obtain ⟨f, fd, ds, F, hmt, hb, hd⟩ := Cm.ex
  cases hd
  refine ⟨fun c σ H Q q H1 x pins s I => ?_⟩
  refine wpAny_Call_Name_kw (ld_blt I hg hm PySem.boot_len ?_ (by decide) (by decide))
  refine PyProof.Rows.callWith_builtin1 (PyProof.Rows.args_cons (thn (h.run c q H1 x pins s I) fun u s1 ⟨y, H2, I2, ry, H3, x3, a, dx, fs, ex, ea, q⟩ => PyProof.Rows.args_nil ?_) he) he hpl
  subst ex
  obtain rfl : u = Value.ref a := ry
  obtain ⟨m, od, hF, J⟩ := inst_of I2 (x3 _ _ ea)
  refine PySem.W.len_K hF I2.ok.mod.kin J hmt.at_ hmt.fn ?_
  refine wpAny_mono (run_fngA (A := X.A.in1) (us := [.ref a]) (vs := [.ref a]) F ((c.mono hkj).room hcm).in1 c.gd rfl c.tk hb I2 x3 (.cons rfl .nil) q) (fun v s' ⟨z, H4, I4, rz, H5, x5, qz⟩ => ?_) fun _ _ x => x
  cases z <;> first | exact qz.elim | skip
  obtain ⟨tk, rfl⟩ := rz
  exact ⟨qz.1, .int _, H4, I4.tok _, ⟨_, rfl⟩, H5, x5, qz.2⟩
/-- repr(o) by its own __repr__ -/
def rReprO (C : Addr) (sp : Sp) (to : RX) : RX := fun σ H Q W => to σ H (fun x H1 => ∃ a dx fs, x = .ref a ∧ H1 a = some (.ins C dx fs) ∧ sp [x] H1 (fun v H2 => match v with
  | .str z => Q (.str z) H2
  | _ => False) fun c d H' => W c d σ H') W
theorem s_reprO {sp : Sp} {ps : List Str} (Cm : CalM X.prog X.w X.K X.mg X.base C "__repr__" k ps [] sp) (hm : X.mg "repr" = none) (h : SX X j to e) (hkj : k + 1 ≤ j := by decide) (hcm : X.calm = true := by rfl) (hg : Gl X "repr" := by rfl)
    (he : starEach [e] X.env = (false, eval e X.env) :: starEach [] X.env := by rfl) (hpl : (backTo pos (starEach [] X.env)).any (·.1) = false := by rfl) : SX X j (rReprO C sp to) (.Call (.Name "repr" p) [e] [] pos) := by
  obtain ⟨f, fd, ds, F, hmt, hb, hd⟩ := Cm.ex
  cases hd
  refine ⟨fun c σ H Q q H1 x pins s I => ?_⟩
  refine wpAny_Call_Name_kw (ld_blt I hg hm PyProof.Rows.boot_repr ?_ (by decide) (by decide))
  refine PyProof.Rows.callWith_builtin1 (PyProof.Rows.args_cons (thn (h.run c q H1 x pins s I) fun u s1 ⟨y, H2, I2, ry, H3, x3, a, dx, fs, ex, ea, q⟩ => PyProof.Rows.args_nil ?_) he) he hpl
  subst ex
  obtain rfl : u = Value.ref a := ry
  obtain ⟨m, od, hF, J⟩ := inst_of I2 (x3 _ _ ea)
  refine PySem.W.repr_K ((c.mono hkj).room hcm).in1.units0 hF I2.ok.mod.kin J hmt.at_ hmt.fn ?_
  refine wpAny_mono (run_fngA (A := X.A.in1) (us := [.ref a]) (vs := [.ref a]) F ((c.mono hkj).room hcm).in1 c.gd rfl c.tk hb I2 x3 (.cons rfl .nil) q) (fun v s' ⟨z, H4, I4, rz, H5, x5, qz⟩ => ?_) fun _ _ x => x
  cases z <;> first | exact qz.elim | skip
  obtain ⟨tk, rfl⟩ := rz
  exact ⟨.str _, H4, I4, ⟨_, rfl⟩, H5, x5, qz⟩
/-- x == y, x of the class C with its own __eq__, y of the class C' -/
def oEqO (C C' : Addr) (sp : Sp) : RO := fun x y H Q => ∃ a dx fs b dy gs, x = .ref a ∧ y = .ref b ∧ H a = some (.ins C dx fs) ∧ H b = some (.ins C' dy gs) ∧ sp [x, y] H (fun v H2 => ∃ r, v = .bl r ∧ Q (.bl r) H2) fun _ _ _ => False
end
section
variable {X : Cx} {j : Nat} {W : WX} {a b : Expr} {pos : Pos} {ta tb : RX} {C C' : Addr} {k : Nat}
/-- an operator that calls: at a context's own level -/
structure SOc (X : Cx) (j : Nat) (f : Value → Value → Sem Value) (r : RO) : Prop where
  run : ∀ {W}, Cn X W j → SO X f r
theorem b_cmpc {op : CmpOp} {r : RO} (ho : SOc X j (compareOp op) r) (ha : SX X j ta a) (hb : SX X j tb b) (hm : behindInMarks op b = false := by first | exact nomark _ | with_unfolding_all rfl) : SB X j (tCmp r ta tb) (.Compare a [op] [b] pos) :=
  ⟨fun c _ _ _ h => (b_cmp (ho.run c) ha hb hm).run c h⟩
theorem s_cmpc {op : CmpOp} {r : RO} (ho : SOc X j (compareOp op) r) (ha : SX X j ta a) (hb : SX X j tb b) (hm : behindInMarks op b = false := by first | exact nomark _ | with_unfolding_all rfl) : SX X j (rBin r ta tb) (.Compare a [op] [b] pos) :=
  ⟨fun c _ _ _ h => (s_cmp (ho.run c) ha hb hm).run c h⟩
theorem o_eqO {sp : Sp} {ps : List Str} (Cm : CalM X.prog X.w X.K X.mg X.base C "__eq__" k ps [] sp) (nf : PySem.W.notFirst X.K C (.ref C') = true := by simp [PySem.W.notFirst]) (hkj : k ≤ j := by decide) (hcm : X.calm = true := by rfl) : SOc X j (compareOp .Eq) (oEqO C C' sp) := by
  obtain ⟨f, fd, ds, F, hmt, hb, hd⟩ := Cm.ex
  cases hd
  refine ⟨fun c x y H Q ⟨a, dx, fs, b, dy, gs, e1, e2, h1, h2, q⟩ H1 x1 pins s σ v u I r1 r2 => ?_⟩
  subst e1 e2
  obtain rfl : v = Value.ref a := r1
  obtain rfl : u = Value.ref b := r2
  obtain ⟨m, od, hF, J⟩ := inst_of I (x1 _ _ h1)
  obtain ⟨m', od', hF', J'⟩ := inst_of I (x1 _ _ h2)
  refine PySem.W.cmp_K (op := .Eq) (tb := .ref C') c.units0 hF I.ok.mod.kin J J'.type nf hmt.at_ hmt.fn ?_
  refine wpAny_mono (run_fngA (W := fun _ _ _ _ => False) (A := X.A) (us := [.ref a, .ref b]) (vs := [.ref a, .ref b]) F ((c.mono hkj).room hcm) c.gd rfl ?_ hb I x1 (.cons rfl (.cons rfl .nil)) q) (fun v s' ⟨z, H4, I4, rz, H5, x5, r, ez, qz⟩ => ?_) fun _ _ x => x
  · exact c.tk.imp fun cl d σ H ⟨_, _, z⟩ => z.elim
  · subst ez
    cases rz
    exact ⟨.bl _, H4, I4, rfl, H5, x5, qz⟩
end
/-! ## methods and classes called with keywords -/
section
variable {X : Cx} {j : Nat} {W : WX} {e a b c o : Expr} {es rest : List Expr} {kws : List Keyword} {σ : St} {H H1 : Hp} {Q : VK} {pos p apos : Pos} {t ta tb to : RX} {tr tk : RA} {n f m : Str} {C : Addr} {sp : Sp} {k nv nk : Nat} {ps ks : List Str} {gV : List V → List V → List V}
/-- C(.., k = v): nv the number of positional values with self -/
def rMakeN (C : Addr) (sp : Sp) (nv nk : Nat) (gV : List V → List V → List V) (t tk : RA) : RX := fun σ H Q W => t σ H (fun vs H1 => tk σ H1 (fun zs H2 => vs.length + 1 = nv ∧ zs.length = nk ∧ ∀ x dx, H2 x = none → H2 dx = none → dx ≠ x →
  sp (gV (.ref x :: vs) zs) (upd (upd H2 dx (.own x)) x (.ins C dx [])) (fun v H3 => v = .non ∧ Q (.ref x) H3) fun c d H' => W c d σ H') W) W
theorem run_makeNU {us ws : List Value} {f : Addr} {fd : FuncData} {vs zs : List V} {pins : List (Addr × Obj)} {s : Shared} {g : List Value → List Value → List Value} (hmk : PySem.W.makesIn X.K C = true) (hm : Meth X.K C "__init__" f) (F : FnG X.prog X.w X.K X.mg X.base k f fd ps sp) (c : Cn X (upW W) (k + 1)) (hcm : X.calm = true) (hb : KBn X.K fd ps nv ks g gV)
    (I : Inv X pins σ H1 s) (x : Ex H H1) (r : Vals vs us) (rz : Vals zs ws) (l1 : vs.length + 1 = nv) (l2 : zs.length = ks.length)
    (h : ∀ x dx, H x = none → H dx = none → dx ≠ x → sp (gV (.ref x :: vs) zs) (upd (upd H dx (.own x)) x (.ins C dx [])) (fun v H2 => v = .non ∧ Q (.ref x) H2) fun c d H' => W c d σ H') :
    wpAny (model X.prog X.w) X.A (call (.ref C) us (ks.zip ws)) (EP X pins σ (up Q)) X.xe s := by
  have f1 := I.hok.fresh (Nat.le_succ s.heap.objs.size)
  have f2 := I.hok.fresh (Nat.le_refl s.heap.objs.size)
  have hq := h (s.heap.objs.size + 1) s.heap.objs.size (x.free f1) (x.free f2) (Nat.ne_of_lt (Nat.lt_succ_self _))
  have I2 := Inv.made (C := C) I
  have x2 : Ex (upd (upd H s.heap.objs.size (.own (s.heap.objs.size + 1))) (s.heap.objs.size + 1) (.ins C s.heap.objs.size [])) (upd (upd H1 s.heap.objs.size (.own (s.heap.objs.size + 1))) (s.heap.objs.size + 1) (.ins C s.heap.objs.size [])) := (x.set _ _).set _ _
  have r1 : Vals (V.ref (s.heap.objs.size + 1) :: vs) (Value.ref (s.heap.objs.size + 1) :: us) := .cons rfl r
  have r2 := hb.rel r1 rz
  have e1 : (Value.ref (s.heap.objs.size + 1) :: us).length = nv := r1.length.symm.trans l1
  have e2 : ws.length = ks.length := rz.length.symm.trans l2
  refine wpAny_call (make_map (f := f) I.kIn hmk hm.at_ (beq_iff_eq.mp hm.fn) (codeAny_mono (F.run _ X.stack _ _ ⟨Value.ref (s.heap.objs.size + 1) :: us, ks.zip ws⟩ (g (Value.ref (s.heap.objs.size + 1) :: us) ws) _ _ _ _ ((c.room hcm).make C us (ks.zip ws)) (Around.gd_make c.gd C us (ks.zip ws))
    (I2.env0.make C us (ks.zip ws)) (hb.to _ (Value.ref (s.heap.objs.size + 1) :: us) ws I2.kIn e1 e2) r2 x2 hq) fun r s' hq' => ?_))
  rcases r with e | fl
  · exact c.tk e s' (XE.of_call I2 (fun cl d H' ⟨H2, x2, q2⟩ => ⟨H2, x2, q2⟩) hq')
  · cases fl with
    | ret u =>
      obtain ⟨v, H', I3, rv, H4, x4, ev, q3⟩ := I2.after hq'
      subst ev
      exact ⟨rv, ⟨V.ref (s.heap.objs.size + 1), H', I3, rfl, H4, x4, q3⟩⟩
    | next => exact False.elim hq'
    | brk => exact False.elim hq'
    | cont => exact False.elim hq'
theorem s_makeK (M : MkC X.K X.mg n C) (Cm : CalMK X.prog X.w X.K X.mg X.base C "__init__" k nv ks gV sp) (h : SA X j tr (e :: es)) (hk : SK X j tk kws) (hnk : ks.length = nk := by rfl) (hkj : k + 1 ≤ j := by decide) (hcm : X.calm = true := by rfl) (hg : Gl X n := by rfl)
    (hall : (backToKw pos (keywordEach kws X.env)).all (·.1.isSome) = true := by rfl) (hks : (backToKw pos (keywordEach kws X.env)).filterMap (·.1) = ks := by rfl)
    (hdb : (n == ("__debug__" : Str)) = false := by decide) (he : starEach (e :: es) X.env = (false, eval e X.env) :: starEach es X.env := by rfl)
    (hpl : ((backTo pos (starEach (e :: es) X.env)).any (·.1) || (backToKw pos (keywordEach kws X.env)).any (·.1.isNone)) = false := by rfl) : SX X j (rMakeN C sp nv nk gV tr tk) (.Call (.Name n p) (e :: es) kws pos) := by
  obtain ⟨f, fd, ps, g, F, hm, hb⟩ := Cm.ex
  refine ⟨fun c σ H Q q H1 x pins s I => ?_⟩
  refine wpAny_Call_Name_kw (ld_glob I hg M.g ?_ hdb)
  refine PySem.W.callWith_KW (h₀ := X.base) I.ok.mod.kin M.kp hall (thn (h.run c q H1 x pos pins s I) fun us s1 ⟨vs, H2, I2, r, H3, x3, q⟩ => ?_) hpl he
  refine thn (hk.run c q H2 x3 pos pins s1 I2) fun ws s2 ⟨zs, H4, I4, rz, H5, x5, l1, l2, q2⟩ => ⟨I4.kIn, ?_⟩
  rw [hks]
  exact run_makeNU M.makes hm F (c.mono hkj) hcm hb I4 x5 r rz l1 (l2.trans hnk.symm) q2
/-- o.f as a target -/
def gFld (C : Addr) (f : Str) (to : RX) : RG := fun v σ H R W => to σ H (fun x H1 => ∃ a dx fs, x = .ref a ∧ H1 a = some (.ins C dx fs) ∧ fs.length < 1000 ∧ R σ (upd H1 a (.ins C dx (putF f v fs)))) W
theorem g_fld (cl : Cls X.K C) (na : NoAttr X.K C f) (ho : SX X j to o) (ha : ∀ v, assign (.Attribute o f pos) X.env v = (do
      let ov ← holding [v] (eval o X.env)
      standAt pos.atName
      holding [v, ov] (setAttr ov f v)
      release [v, ov] []) := by intro _; rfl) : SG X j (gFld C f to) (.Attribute o f pos) := ⟨fun c v σ H R q H1 x pins s u I r => by
  rw [ha]
  refine wpAny_bind (wpAny_holding (thn (ho.run c q H1 x pins s I) fun ov s1 ⟨y, H2, I2, ry, H3, x3, a, dx, fs, e, h, hl, q⟩ => ?_))
  subst e
  obtain rfl : ov = Value.ref a := ry
  refine wpAny_bind (wpAny_standAt (wpAny_bind (wpAny_holding (setattr_ok I2 (x3 _ _ h) cl na hl r fun s3 I3 => ?_))))
  exact wpAny_release ⟨σ, _, I3, _, x3.set a _, q⟩⟩
end
section
variable {P : Program} {w : World} {K : PySem.W.Frag} {mg : Str → Option Value} {base : Heap} {n : Str} {st : Stmt} {ps N : List Str} {k : Nat} {zs : RS} {kws : List (Str × V)}
theorem DefK.rfng (d : DefK K mg n st kws) (S : FnScope N ps (defScope st)) (hb : Body P w K mg base N n st d.f k zs) : FnG P w K mg base (k + 1) d.f d.fd ps (rFn ps.length N zs) := by
  obtain ⟨oc, od, dV, kV, doc, pm, an, cdv, ct, osl, e, lk, hcd, hD, hK⟩ := d.F.ex
  rcases hD with ⟨_, rfl⟩ | ⟨z, _⟩
  · exact fng_of ⟨⟨oc, od, kV, doc, pm, an, cdv, ct, osl, e, lk, hcd⟩, d.F.kp⟩ S (fun vs H Q E h => h.1) fun cd A outer s H1 E1 W vs H Q E c o hW h => by
      have c2 : Cn (fx P w K mg base N n st d.f cd A outer s H1 E1) (upW fun c d _ H' => E c d H') k := ⟨c.room, c.un, c.gd, c.tk.imp fun c0 d0 σ0 H0 ⟨H2, x2, q⟩ => c.wu _ _ _ _ _ (hW _ _ _ _ q) x2, fun c d σ H H' ⟨H2, x2, q⟩ x => ⟨H2, x2.trans x, q⟩⟩
      exact ((hb cd A outer s H1 E1).run c2 o h.2).le rfn_ends
  · exact absurd rfl z
end
/-! ## what queues compute -/
def wkF : Int → List Int → Int
  | f, [] => f
  | f, v :: r => wkF (if precB f v = true then v else f) r
def wk : List Int → Int
  | [] => 0
  | x :: r => wkF x r
theorem wkF_mem : ∀ (r : List Int) (f : Int), wkF f r = f ∨ wkF f r ∈ r
  | [], f => .inl rfl
  | v :: r, f => by
    show wkF (if precB f v = true then v else f) r = f ∨ wkF (if precB f v = true then v else f) r ∈ v :: r
    by_cases h : precB f v = true
    · rw [if_pos h]
      rcases wkF_mem r v with e | e
      · rw [e]; exact .inr (List.mem_cons_self ..)
      · exact .inr (List.mem_cons_of_mem _ e)
    · rw [if_neg h]
      rcases wkF_mem r f with e | e
      · exact .inl e
      · exact .inr (List.mem_cons_of_mem _ e)
theorem wk_mem {xs : List Int} (h : xs ≠ []) : wk xs ∈ xs := by
  cases xs with
  | nil => exact absurd rfl h
  | cons x r =>
    rcases wkF_mem r x with e | e
    · show wkF x r ∈ x :: r
      rw [e]; exact List.mem_cons_self ..
    · exact List.mem_cons_of_mem _ e
theorem wkF_step (xs : List Int) (f : Int) (i : Nat) (v : Int) (h : xs[i]? = some v) : wkF f (xs.take (i + 1)) = (if precB (wkF f (xs.take i)) v = true then v else wkF f (xs.take i)) := by
  induction xs generalizing f i with
  | nil => simp at h
  | cons x r ih =>
    cases i with
    | zero =>
      simp only [List.getElem?_cons_zero, Option.some.injEq] at h
      subst h
      rfl
    | succ i =>
      rw [List.take_succ_cons, List.take_succ_cons]
      exact ih _ _ (by simpa using h)
def dropW : Nat → List Int → List Int
  | 0, xs => xs
  | n + 1, xs => dropW n (xs.erase (wk xs))
theorem dropW_sub : ∀ (n : Nat) (xs : List Int) (v : Int), v ∈ dropW n xs → v ∈ xs
  | 0, _, _, h => h
  | n + 1, xs, v, h => List.mem_of_mem_erase (dropW_sub n _ v h)
theorem dropW_len : ∀ (n : Nat) (xs : List Int), n ≤ xs.length → (dropW n xs).length = xs.length - n
  | 0, _, _ => by simp [dropW]
  | n + 1, xs, h => by
    have ne : xs ≠ [] := fun e => by subst e; simp at h
    have el : (xs.erase (wk xs)).length = xs.length - 1 := List.length_erase_of_mem (wk_mem ne)
    show (dropW n (xs.erase (wk xs))).length = _
    rw [dropW_len n _ (by omega), el]
    omega
def insI (x : Int) : List Int → List Int
  | [] => [x]
  | y :: r => if x ≤ y then x :: y :: r else y :: insI x r
def srt : List Int → List Int
  | [] => []
  | x :: r => insI x (srt r)
theorem insI_perm (x : Int) : ∀ ys : List Int, (insI x ys).Perm (x :: ys)
  | [] => .refl _
  | y :: r => by
    unfold insI
    split
    · exact .refl _
    · exact ((insI_perm x r).cons y).trans (.swap x y r)
theorem srt_perm : ∀ xs : List Int, (srt xs).Perm xs
  | [] => .refl _
  | x :: r => (insI_perm x _).trans ((srt_perm r).cons x)
theorem insI_pw (x : Int) : ∀ ys : List Int, ys.Pairwise (· ≤ ·) → (insI x ys).Pairwise (· ≤ ·)
  | [], _ => by simp [insI]
  | y :: r, h => by
    have ⟨h1, h2⟩ := List.pairwise_cons.mp h
    unfold insI
    split
    · rename_i k
      refine List.pairwise_cons.mpr ⟨fun z hz => ?_, h⟩
      rcases List.mem_cons.mp hz with e | e
      · omega
      · have := h1 z e; omega
    · rename_i k
      refine List.pairwise_cons.mpr ⟨fun z hz => ?_, insI_pw x r h2⟩
      rcases List.mem_cons.mp ((insI_perm x r).mem_iff.mp hz) with e | e
      · omega
      · exact h1 z e
theorem srt_pw : ∀ xs : List Int, (srt xs).Pairwise (· ≤ ·)
  | [] => .nil
  | x :: r => insI_pw x _ (srt_pw r)
theorem sorted_eq : ∀ {xs ys : List Int}, xs.Perm ys → xs.Pairwise (· ≤ ·) → ys.Pairwise (· ≤ ·) → xs = ys
  | [], ys, p, _, _ => (List.nil_perm.mp p).symm ▸ rfl
  | x :: xs, [], p, _, _ => by have := p.length_eq; simp at this
  | x :: xs, y :: ys, p, hx, hy => by
    have ⟨a1, a2⟩ := List.pairwise_cons.mp hx
    have ⟨b1, b2⟩ := List.pairwise_cons.mp hy
    have e : x = y := by
      have m1 : x ∈ y :: ys := p.mem_iff.mp (List.mem_cons_self ..)
      have m2 : y ∈ x :: xs := p.mem_iff.mpr (List.mem_cons_self ..)
      rcases List.mem_cons.mp m1 with e | e
      · exact e
      rcases List.mem_cons.mp m2 with e2 | e2
      · exact e2.symm
      have := b1 x e
      have := a1 y e2
      omega
    subst e
    rw [sorted_eq ((List.perm_cons x).mp p) a2 b2]
theorem srt_eq {xs ns : List Int} (p : ns.Perm xs) (h : ns.Pairwise (· ≤ ·)) : ns = srt xs := sorted_eq (p.trans (srt_perm xs).symm) h (srt_pw xs)
def rgI (lo hi : Int) : List Int := (List.range (hi - lo + 1).toNat).map fun (i : Nat) => lo + (i : Int)
theorem rgI_mem {lo hi v : Int} : v ∈ rgI lo hi ↔ lo ≤ v ∧ v ≤ hi := by
  unfold rgI
  rw [List.mem_map]
  constructor
  · rintro ⟨i, hm, rfl⟩
    have := List.mem_range.mp hm
    omega
  · rintro ⟨h1, h2⟩
    exact ⟨(v - lo).toNat, List.mem_range.mpr (by omega), by omega⟩
theorem rgI_len (lo hi : Int) : (rgI lo hi).length = (hi - lo + 1).toNat := by simp [rgI]
/-- others, behind the strongest ones -/
def othR (w : List Int) (lo hi : Int) (cap : Nat) : List Int := w ++ strongL lo (hi - 1) (cap - 1)
def aftR (w : List Int) (lo hi : Int) (cap : Nat) : List Int :=
  if (w.length : Int) + hi - lo + 1 ≤ cap then w ++ rgI lo hi else srt (dropW ((othR w lo hi cap).length - (cap - 1)) (othR w lo hi cap)) ++ [hi]
theorem aftR_len {w : List Int} {lo hi : Int} {cap : Nat} (hc : 1 ≤ cap) (hw : w.length ≤ cap) : (aftR w lo hi cap).length ≤ cap := by
  unfold aftR
  split
  · rw [List.length_append, rgI_len]
    omega
  · rw [List.length_append, (srt_perm _).length_eq, dropW_len _ _ (by omega)]
    simp
    omega
/-- all of them lie between the bounds -/
def Btw (a b : Int) (xs : List Int) : Prop := ∀ v ∈ xs, a ≤ v ∧ v ≤ b
theorem Btw.mono {a b c d : Int} {xs : List Int} (h : Btw a b xs) (h1 : c ≤ a) (h2 : b ≤ d) : Btw c d xs := fun v hv => by have := h v hv; omega
theorem othR_btw {w : List Int} {lo hi : Int} {cap : Nat} (h1 : 1 ≤ hi) (hw : Btw 0 (hi - 1) w) : Btw 0 (hi - 1) (othR w lo hi cap) := fun v hv => by
  rcases List.mem_append.mp hv with h | h
  · exact hw v h
  · have := (strongL_ok (low := lo) (high := hi - 1) (n := cap - 1) (by omega)).2 v h
    omega
theorem aftR_btw {w : List Int} {lo hi : Int} {cap : Nat} (h0 : 0 ≤ lo) (hl : lo ≤ hi) (h1 : hi = 0 → (w.length : Int) + hi - lo + 1 ≤ cap) (hw : Btw 0 (lo - 1) w) : Btw 0 hi (aftR w lo hi cap) := fun v hv => by
  unfold aftR at hv
  split at hv
  · rcases List.mem_append.mp hv with h | h
    · have := hw v h; omega
    · have := rgI_mem.mp h; omega
  · rename_i k
    have h2 : 1 ≤ hi := by
      by_cases e : hi = 0
      · exact absurd (h1 e) k
      · omega
    rcases List.mem_append.mp hv with h | h
    · have := othR_btw (cap := cap) (lo := lo) h2 (hw.mono (Int.le_refl 0) (by omega)) v (dropW_sub _ _ _ ((srt_perm _).mem_iff.mp h))
      omega
    · simp at h; omega
theorem cutV_tail (xs : List V) : cutV xs (some 1) none = xs.drop 1 := by
  have e : HT.sIx xs.length 0 (some 1) = min 1 xs.length := HT.sIx_nat _ _ 1
  unfold cutV
  rw [e, HT.sIx_none]
  by_cases h : 1 ≤ xs.length
  · rw [Nat.min_eq_left h, List.take_of_length_le (by simp)]
  · have : xs = [] := List.length_eq_zero_iff.mp (by omega)
    subst this; rfl
theorem rgV_int (lo hi : Int) : rgV lo (hi + 1) = (rgI lo hi).map V.int := by
  unfold rgV rgI
  rw [List.map_map]
  have e : hi + 1 - lo = hi - lo + 1 := by omega
  rw [e]
  rfl
theorem erase_ix {xs : List Int} {k : Int} (h : k ∈ xs) : ∃ i, xs[i]? = some k ∧ (∀ m : Nat, m < i → xs[m]? ≠ some k) ∧ xs.eraseIdx i = xs.erase k := by
  induction xs with
  | nil => simp at h
  | cons x r ih =>
    by_cases e : x = k
    · subst e
      exact ⟨0, rfl, fun m hm => absurd hm (Nat.not_lt_zero _), by simp⟩
    · obtain ⟨i, h1, h2, h3⟩ := ih ((List.mem_cons.mp h).resolve_left fun z => e z.symm)
      refine ⟨i + 1, by simpa using h1, fun m hm => ?_, ?_⟩
      · cases m with
        | zero => simpa using e
        | succ m => simpa using h2 m (by omega)
      · rw [List.eraseIdx_cons_succ, h3, List.erase_cons_tail (by simpa using e)]
/-! ## queues in the heap -/
abbrev Big (v : Int) : Prop := v < 1000000000000000000000000000000000000000000000000000000000000000
def mx (i j : Int) : Int := if j > i then j else i
theorem mx_le (i j : Int) : i ≤ mx i j ∧ j ≤ mx i j := by unfold mx; split <;> omega
theorem inV_int (v : Int) (xs : List Int) : inV (.int v) (xs.map V.int) = decide (v ∈ xs) := by
  unfold inV
  rw [List.any_map]
  have e : (fun y => eqV y (V.int v)) ∘ V.int = fun y : Int => decide (y = v) := by
    funext y
    show eqV (V.int y) (V.int v) = decide (y = v)
    by_cases h : y = v
    · subst h; simp [eqV]
    · simp [eqV, h]
  rw [e]
  by_cases h : v ∈ xs
  · simp [h]
  · rw [decide_eq_false h]
    refine List.any_eq_false.mpr fun y hy => ?_
    simp
    exact fun e => h (e ▸ hy)
theorem flat_ints (xs : List Int) : (xs.map V.int).all flatV = true := by
  rw [List.all_map]
  exact List.all_eq_true.mpr fun _ _ => rfl
/-- outside L all stays -/
def Fr (L : List Addr) (H H' : Hp) : Prop := ∀ b o, b ∉ L → H b = some o → H' b = some o
theorem Fr.of_ex {L : List Addr} {H H' : Hp} (x : Ex H H') : Fr L H H' := fun b o _ h => x b o h
theorem Fr.trans {L : List Addr} {H H1 H2 : Hp} (a : Fr L H H1) (b : Fr L H1 H2) : Fr L H H2 := fun c o n h => b c o n (a c o n h)
theorem Fr.upd {L : List Addr} {H H1 : Hp} {p : Addr} {o : HO} (a : Fr L H H1) (h : p ∈ L ∨ H1 p = none) : Fr L H (L2.upd H1 p o) := fun b u n e => by
  have e1 := a b u n e
  by_cases z : b = p
  · subst z
    rcases h with h | h
    · exact absurd h n
    · rw [h] at e1; cases e1
  · rw [upd_ne z]; exact e1
structure Arr where
  mark : Int
  w : List Int
  low : Int
  high : Int
def aftA (w : List Int) (lo v : Int) (cap : Nat) : List Int := if v < lo then w else aftR w lo v cap
def ArAt (C : Addr) (H : Hp) (a wl : Addr) (r : Arr) : Prop := (∃ dx, H a = some (.ins C dx [("mark", .int r.mark), ("waited", .ref wl), ("low", .int r.low), ("high", .int r.high)])) ∧ H wl = some (.lst (r.w.map V.int))
structure WOk (w : List Int) (lo : Int) (cap : Nat) : Prop where
  c2 : 2 ≤ cap
  c9 : cap ≤ 9
  len : w.length ≤ cap
  l0 : 0 ≤ lo
  b : Btw 0 (lo - 1) w
theorem WOk.hi0 {w : List Int} {lo hi : Int} {cap : Nat} (h : WOk w lo cap) (hl : lo ≤ hi) (e : hi = 0) : (w.length : Int) + hi - lo + 1 ≤ cap := by
  have h2 := h.c2
  have h0 := h.l0
  have : w = [] := List.eq_nil_iff_forall_not_mem.mpr fun v hv => by have := h.b v hv; omega
  subst this
  simp
  omega
theorem aftA_len {w : List Int} {lo v : Int} {cap : Nat} (h : WOk w lo cap) : (aftA w lo v cap).length ≤ cap := by
  unfold aftA
  split
  · exact h.len
  · exact aftR_len (by have := h.c2; omega) h.len
theorem aftA_btw {w : List Int} {lo v b : Int} {cap : Nat} (h : WOk w lo cap) (hw : Btw 0 b w) (hb : b ≤ v) : Btw 0 v (aftA w lo v cap) := by
  unfold aftA
  split
  · exact hw.mono (Int.le_refl 0) hb
  · exact aftR_btw h.l0 (by omega) (h.hi0 (by omega)) h.b
/-- the bisection of a drop -/
def bisF (r : Arr) (cap : Nat) (v : Int) : Nat → Int → Int → Int × Int
  | 0, p, a => (p, a)
  | n + 1, p, a => if a - p > 1 then (if v ∈ aftA r.w r.low ((p + a) / 2) cap then bisF r cap v n ((p + a) / 2) a else bisF r cap v n p ((p + a) / 2)) else (p, a)
def bisR (r : Arr) (cap : Nat) (v : Int) : Int × Int := bisF r cap v (r.high - mx v (r.low - 1)).toNat (mx v (r.low - 1)) r.high
abbrev Drop := Int × Int × List Int
def dropA (r : Arr) (cap : Nat) (v : Int) : Drop := (r.mark, (bisR r cap v).2, (aftA r.w r.low (bisR r cap v).1 cap).filter fun o => !decide (o = v))
def holdsA (r : Arr) (v : Int) : Bool := decide (v ∈ r.w) || (decide (r.low ≤ v) && decide (v ≤ r.high))
def Drop.data (d : Drop) : PyData := .tuple [.int d.1, .int d.2.1, .tuple (d.2.2.map PyData.int)]
abbrev Call := Int × Option Int
structure Qst where
  size : Nat
  first : Int
  mark : Int
  latest : Option Int
  kept : List Int
  most : Int
  calls : List Call
def optV : Option Int → V
  | none => .non
  | some i => .int i
def callV : Call → List V
  | (l, some h) => [.int l, .int h]
  | (v, none) => [.int v]
def Qst.bound (q : Qst) : Int := match q.latest with
  | none => q.first - 1
  | some l => l
def Qst.lag (q : Qst) : Int := match q.latest with
  | none => 0
  | some l => mx 0 (l - q.mark)
def Qst.new (cap : Nat) (start : Int) : Qst := ⟨cap, start, start - 1, none, [], 0, []⟩
def Qst.arr (q : Qst) (lo hi : Int) : Arr := ⟨q.mark, q.kept, mx lo (q.mark + 1), hi⟩
def Qst.arrive (q : Qst) (lo hi : Int) : Qst :=
  { q with kept := aftA q.kept (mx lo (q.mark + 1)) hi q.size, latest := some hi, most := mx q.most (mx 0 (hi - q.mark)), calls := q.calls ++ [(lo, some hi)] }
def Qst.advance (q : Qst) (v : Int) : Qst := { q with kept := q.kept.filter fun o => decide (o > v), mark := v, calls := q.calls ++ [(v, none)] }
def Qst.gone (q : Qst) (v : Int) : List Int := q.kept.filter fun o => !decide (o ∈ (q.arrive v v).kept)
def Qst.pushed (q : Qst) (v : Int) : Option Int := (q.gone v).head?
def Qst.forecast (q : Qst) (n : Int) : List Int := aftA q.kept (mx (q.bound + 1) (q.mark + 1)) (q.bound + 1 + n - 1) q.size
def dropRun (size : Nat) (v : Int) : Int → List Int → List Call → Option Drop
  | _, _, [] => none
  | _, w, (x, none) :: r => dropRun size v x (w.filter fun o => decide (o > x)) r
  | m, w, (l, some h) :: r =>
    if (holdsA ⟨m, w, mx l (m + 1), h⟩ v && !decide (v ∈ aftA w (mx l (m + 1)) h size)) = true then some (dropA ⟨m, w, mx l (m + 1), h⟩ size v)
    else dropRun size v m (aftA w (mx l (m + 1)) h size) r
def Qst.dropOf (q : Qst) (v : Int) : Option Drop := dropRun q.size v (q.first - 1) [] q.calls
def Qst.arrived (q : Qst) (v : Int) : Bool := q.calls.any fun c => match c with
  | (l, some h) => decide (l ≤ v) && decide (v ≤ h)
  | (_, none) => false
def Qst.eqv (q r : Qst) : Bool := decide (q.size = r.size ∧ q.first = r.first ∧ q.mark = r.mark ∧ q.latest = r.latest ∧ q.kept = r.kept)
/-- the calls ascend, from the bound b on -/
def callsOk (b : Int) : List Call → Prop
  | [] => True
  | (l, some h) :: r => b < l ∧ l ≤ h ∧ Big h ∧ callsOk h r
  | (v, none) :: r => 0 ≤ v ∧ Big v ∧ callsOk b r
def endB (b : Int) : List Call → Int
  | [] => b
  | (_, some h) :: r => endB h r
  | (_, none) :: r => endB b r
theorem callsOk_app : ∀ (cs : List Call) (b : Int) (ds : List Call), callsOk b (cs ++ ds) ↔ callsOk b cs ∧ callsOk (endB b cs) ds
  | [], b, ds => by simp [callsOk, endB]
  | (l, some h) :: r, b, ds => by
    show b < l ∧ l ≤ h ∧ Big h ∧ callsOk h (r ++ ds) ↔ (b < l ∧ l ≤ h ∧ Big h ∧ callsOk h r) ∧ callsOk (endB h r) ds
    rw [callsOk_app r h ds]
    constructor
    · rintro ⟨a, b, c, d, e⟩; exact ⟨⟨a, b, c, d⟩, e⟩
    · rintro ⟨⟨a, b, c, d⟩, e⟩; exact ⟨a, b, c, d, e⟩
  | (v, none) :: r, b, ds => by
    show 0 ≤ v ∧ Big v ∧ callsOk b (r ++ ds) ↔ (0 ≤ v ∧ Big v ∧ callsOk b r) ∧ callsOk (endB b r) ds
    rw [callsOk_app r b ds]
    constructor
    · rintro ⟨a, b, d, e⟩; exact ⟨⟨a, b, d⟩, e⟩
    · rintro ⟨⟨a, b, d⟩, e⟩; exact ⟨a, b, d, e⟩
theorem endB_app : ∀ (cs : List Call) (b : Int) (ds : List Call), endB b (cs ++ ds) = endB (endB b cs) ds
  | [], b, ds => rfl
  | (l, some h) :: r, b, ds => endB_app r h ds
  | (v, none) :: r, b, ds => endB_app r b ds
structure QOk (q : Qst) : Prop where
  c2 : 2 ≤ q.size
  c9 : q.size ≤ 9
  f0 : 0 ≤ q.first
  f1 : Big q.first
  m0 : -1 ≤ q.mark
  m1 : Big q.mark
  b1 : Big q.bound
  b0 : q.first - 1 ≤ q.bound
  klen : q.kept.length ≤ q.size
  kb : Btw 0 q.bound q.kept
  cs : callsOk (q.first - 1) q.calls
  ce : endB (q.first - 1) q.calls = q.bound
  clen : q.calls.length ≤ 100000
theorem QOk.new {cap : Nat} {start : Int} (c2 : 2 ≤ cap) (c9 : cap ≤ 9) (s0 : 0 ≤ start) (s1 : Big start) : QOk (Qst.new cap start) :=
  ⟨c2, c9, s0, s1, by show -1 ≤ start - 1; omega, by show Big (start - 1); unfold Big at *; omega, by show Big (start - 1); unfold Big at *; omega, Int.le_refl _, Nat.zero_le _, (fun v hv => nomatch hv), trivial, rfl, Nat.zero_le _⟩
theorem QOk.wok {q : Qst} (k : QOk q) {lo : Int} (h : q.bound < lo) : WOk q.kept (mx lo (q.mark + 1)) q.size := by
  have h1 := mx_le lo (q.mark + 1)
  have h2 := k.b0
  have h3 := k.f0
  exact ⟨k.c2, k.c9, k.klen, by omega, k.kb.mono (Int.le_refl 0) (by omega)⟩
theorem QOk.arrive {q : Qst} (k : QOk q) {lo hi : Int} (h : q.bound < lo) (hl : lo ≤ hi) (hb : Big hi) (hc : q.calls.length < 100000) : QOk (q.arrive lo hi) := by
  have w := k.wok h
  have h2 := k.b0
  refine ⟨k.c2, k.c9, k.f0, k.f1, k.m0, k.m1, hb, by show q.first - 1 ≤ hi; omega, aftA_len w, aftA_btw w k.kb (by show q.bound ≤ hi; omega), ?_, ?_, ?_⟩
  · show callsOk (q.first - 1) (q.calls ++ [(lo, some hi)])
    rw [callsOk_app, k.ce]
    exact ⟨k.cs, h, hl, hb, trivial⟩
  · show endB (q.first - 1) (q.calls ++ [(lo, some hi)]) = hi
    rw [endB_app]
    rfl
  · show (q.calls ++ [(lo, some hi)]).length ≤ 100000
    simp
    omega
theorem QOk.advance {q : Qst} (k : QOk q) {v : Int} (h0 : 0 ≤ v) (hb : Big v) (hc : q.calls.length < 100000) : QOk (q.advance v) := by
  refine ⟨k.c2, k.c9, k.f0, k.f1, by show -1 ≤ v; omega, hb, k.b1, k.b0, ?_, fun x hx => k.kb x (List.mem_filter.mp hx).1, ?_, ?_, ?_⟩
  · exact Nat.le_trans (List.length_filter_le _ _) k.klen
  · show callsOk (q.first - 1) (q.calls ++ [(v, none)])
    rw [callsOk_app]
    exact ⟨k.cs, h0, hb, trivial⟩
  · show endB (q.first - 1) (q.calls ++ [(v, none)]) = _
    rw [endB_app]
    exact k.ce
  · show (q.calls ++ [(v, none)]).length ≤ 100000
    simp
    omega
def fsQ (q : Qst) (kl cl : Addr) : List (Str × V) := [("size", .int q.size), ("first", .int q.first), ("mark", .int q.mark), ("latest", optV q.latest), ("kept", .ref kl), ("most_lag", .int q.most), ("calls", .ref cl)]
def CallsAt (H : Hp) (cs : List Addr) (ks : List Call) : Prop := cs.length = ks.length ∧ ∀ (i : Nat) c k, cs[i]? = some c → ks[i]? = some k → H c = some (.tup (callV k))
structure QAt (C : Addr) (H : Hp) (a kl cl : Addr) (q : Qst) : Prop where
  ins : ∃ dx, H a = some (.ins C dx (fsQ q kl cl))
  kept : H kl = some (.lst (q.kept.map V.int))
  calls : ∃ cs : List Addr, H cl = some (.lst (cs.map V.ref)) ∧ CallsAt H cs q.calls
theorem CallsAt.fr {H H' : Hp} {L : List Addr} {cs : List Addr} {ks : List Call} (h : CallsAt H cs ks) (f : Fr L H H') (hL : ∀ b ∈ L, ∀ xs, H b ≠ some (.tup xs)) : CallsAt H' cs ks :=
  ⟨h.1, fun i c k e1 e2 => f _ _ (fun m => hL _ m _ (h.2 i c k e1 e2)) (h.2 i c k e1 e2)⟩
theorem QAt.fr {C : Addr} {H H' : Hp} {L : List Addr} {a kl cl : Addr} {q : Qst} (h : QAt C H a kl cl q) (f : Fr L H H') (n1 : a ∉ L) (n2 : kl ∉ L) (n3 : cl ∉ L) (hL : ∀ b ∈ L, ∀ xs, H b ≠ some (.tup xs)) : QAt C H' a kl cl q := by
  obtain ⟨⟨dx, h1⟩, h2, cs, h3, h4⟩ := h
  exact ⟨⟨dx, f _ _ n1 h1⟩, f _ _ n2 h2, cs, f _ _ n3 h3, h4.fr f hL⟩
theorem QAt.ex {C : Addr} {H H' : Hp} {a kl cl : Addr} {q : Qst} (h : QAt C H a kl cl q) (x : Ex H H') : QAt C H' a kl cl q := h.fr (L := []) (.of_ex x) (by simp) (by simp) (by simp) (fun _ m => by cases m)
theorem ne_kind {H : Hp} {a b : Addr} {o o' : HO} (h1 : H a = some o) (h2 : H b = some o') (ne : o ≠ o') : a ≠ b := fun e => by
  subst e
  rw [h1] at h2
  exact ne (Option.some.inj h2)
theorem QAt.set {C : Addr} {H : Hp} {a kl kl2 cl dx : Addr} {q q2 : Qst} {fs : List (Str × V)} (h : QAt C H a kl cl q) (hd : fs = fsQ q2 kl2 cl) (hk : H kl2 = some (.lst (q2.kept.map V.int))) (hc : q2.calls = q.calls) : QAt C (upd H a (.ins C dx fs)) a kl2 cl q2 := by
  obtain ⟨⟨dx0, h1⟩, h2, cs, h3, h4⟩ := h
  have n1 : kl2 ≠ a := ne_kind hk h1 (fun e => by cases e)
  have n2 : cl ≠ a := ne_kind h3 h1 (fun e => by cases e)
  refine ⟨⟨dx, by rw [upd_same, hd]⟩, by rw [upd_ne n1]; exact hk, cs, by rw [upd_ne n2]; exact h3, hc ▸ h4.fr (L := [a]) (.upd (.of_ex (Ex.refl _)) (.inl (by simp))) fun b hb xs e => ?_⟩
  simp at hb
  subst hb
  rw [h1] at e
  cases e
theorem QAt.call {C : Addr} {H : Hp} {a kl cl t : Addr} {q : Qst} {c : Call} (h : QAt C H a kl cl q) (ht : H t = some (.tup (callV c))) (nk : kl ≠ cl) (cs : List Addr) (h3 : H cl = some (.lst (cs.map V.ref))) (h4 : CallsAt H cs q.calls) : QAt C (upd H cl (.lst (cs.map V.ref ++ [.ref t]))) a kl cl { q with calls := q.calls ++ [c] } := by
  obtain ⟨⟨dx, h1⟩, h2, _⟩ := h
  have n1 : a ≠ cl := ne_kind h1 h3 (fun e => by cases e)
  have n2 : t ≠ cl := ne_kind ht h3 (fun e => by cases e)
  refine ⟨⟨dx, by rw [upd_ne n1]; exact h1⟩, by rw [upd_ne nk]; exact h2, cs ++ [t], by rw [upd_same]; simp, by simp [h4.1], fun i x k e1 e2 => ?_⟩
  by_cases hi : i < cs.length
  · rw [List.getElem?_append_left hi] at e1
    rw [List.getElem?_append_left (by rw [← h4.1]; exact hi)] at e2
    have e := h4.2 i x k e1 e2
    rw [upd_ne (ne_kind e h3 (fun e => by cases e))]
    exact e
  · have hi2 : i = cs.length := by
      have := (List.getElem?_eq_some_iff.mp e1).1
      simp at this
      omega
    subst hi2
    rw [List.getElem?_append_right (Nat.le_refl _), Nat.sub_self] at e1
    rw [List.getElem?_append_right (by rw [h4.1]; exact Nat.le_refl _), h4.1, Nat.sub_self] at e2
    simp at e1 e2
    subst e1 e2
    rw [upd_ne n2]
    exact ht
/-! ## comprehensions by the turn's number, and those that make things -/
def del (H : Hp) (d : Addr) : Hp := fun b => if b = d then none else H b
theorem del_same {H : Hp} {d : Addr} : del H d d = none := if_pos rfl
theorem del_ne {H : Hp} {d b : Addr} (h : b ≠ d) : del H d b = H b := if_neg h
section
variable {n m : Nat} {G : Hp → Prop} {Y : Nat → Hp → VK → Prop} {g : RG} {elt : RX} {vs : List Nat} {σ : St} {H : Hp} {Q : VK} {xs : List V} {lo : Int}
theorem lc_fi {tc : RT} (f : Nat → Bool) (gx : Nat → V) (hn : xs.length < 100000) (hG : G H)
    (turn : ∀ (i : Nat) x d acc (R : Bool → Hp → Prop), xs[i]? = some x → H d = none → (∀ H5, Ex (upd H d (.lst acc)) H5 → R (f i) H5) → tc (put (wipe σ [m]) m x) (upd H d (.lst acc)) R noW)
    (item : ∀ (i : Nat) x d acc H4 (R : VK), xs[i]? = some x → f i = true → H d = none → Ex (upd H d (.lst acc)) H4 → (∀ H5, Ex (upd H d (.lst acc)) H5 → R (gx i) H5) → elt (put (wipe σ [m]) m x) H4 R noW)
    (done : ∀ q, H q = none → Q (.ref q) (upd H q (.lst (((List.range xs.length).filter f).map gx)))) : LcB xs.length G (yAt xs) (gName m) tc elt [m] σ H Q :=
  lcB (fun i acc H' => H' = H ∧ acc = ((List.range i).filter f).map gx) ⟨rfl, by simp⟩ (fun i acc H' hi p => by
    obtain ⟨rfl, rfl⟩ := p
    refine ⟨hG, ?_⟩
    have h1 := List.length_filter_le f (List.range i)
    rw [List.length_range] at h1
    rw [List.length_map]
    omega) (fun i acc H' d hi p nd => by
    obtain ⟨rfl, rfl⟩ := p
    intro x hx
    have ht : List.range (i + 1) = List.range i ++ [i] := List.range_succ
    refine ⟨wipe_put, turn i x d _ _ hx nd fun H5 x5 => ⟨fun hf => item i x d _ _ _ hx hf nd x5 fun H6 x6 => ⟨H', nd, x6, rfl, ?_⟩, fun hf => ⟨H', nd, x5, rfl, ?_⟩⟩⟩
    · rw [ht, List.filter_append, List.map_append]
      simp [List.filter, hf]
    · rw [ht, List.filter_append]
      simp [List.filter, hf]) fun acc H' q p nq => by
    obtain ⟨rfl, rfl⟩ := p
    exact done q nq
end
/-! ## their data -/
theorem lay_ints : ∀ xs : List Int, PyData.canLayAll0 (xs.map PyData.int) = true
  | [] => rfl
  | x :: r => by
    show (PyData.canLay0 (.int x) && PyData.canLayAll0 (r.map PyData.int)) = true
    rw [lay_ints r]
    rfl
theorem shaped_li (xs : List Int) : SeqAt.shaped (.list (xs.map PyData.int)) = true := by
  simp [SeqAt.shaped, PyData.canLay0, lay_ints, PyData.depth, depth_ints]
theorem eqv_ints : ∀ xs ys : List Int, PyData.eqvAll (xs.map PyData.int) (ys.map PyData.int) = decide (xs = ys)
  | [], [] => rfl
  | [], y :: ys => rfl
  | x :: xs, [] => rfl
  | x :: xs, y :: ys => by
    show (PyData.eqv (.int x) (.int y) && PyData.eqvAll (xs.map PyData.int) (ys.map PyData.int)) = _
    rw [eqv_ints xs ys]
    show ((x == y) && decide (xs = ys)) = _
    by_cases h1 : x = y <;> by_cases h2 : xs = ys <;> simp [h1, h2]
def optD : Option Int → PyData
  | none => .none
  | some i => .int i
theorem dp_opt {K : PySem.W.Frag} {H : Hp} (o : Option Int) : Dp K H (optV o) (optD o) := by
  cases o with
  | none => exact .non
  | some i => exact .int i
theorem eqv_opt (a b : Option Int) : PyData.eqv (optD a) (optD b) = decide (a = b) := by
  cases a <;> cases b <;> first | rfl | (simp [optD, PyData.eqv]; done) | (rename_i x y; show (x == y) = _; by_cases h : x = y <;> simp [h])
def Qst.data (q : Qst) : PyData := .tuple [.int q.size, .int q.first, .int q.mark, optD q.latest, .list (q.kept.map PyData.int)]
theorem Qst.shaped (q : Qst) : SeqAt.shaped q.data = true := by
  cases h : q.latest <;> simp [SeqAt.shaped, Qst.data, h, optD, PyData.canLay0, PyData.canLayAll0, lay_ints, PyData.depth, PyData.depthAll, depth_ints]
theorem Qst.eqv_data (q r : Qst) : PyData.eqv q.data r.data = q.eqv r := by
  show ((((q.size : Int)) == ((r.size : Int))) && (q.first == r.first && (q.mark == r.mark && (PyData.eqv (optD q.latest) (optD r.latest) && (PyData.eqvAll (q.kept.map PyData.int) (r.kept.map PyData.int) && true))))) = q.eqv r
  rw [eqv_opt, eqv_ints]
  unfold Qst.eqv
  by_cases h1 : q.size = r.size <;> by_cases h2 : q.first = r.first <;> by_cases h3 : q.mark = r.mark <;> by_cases h4 : q.latest = r.latest <;> by_cases h5 : q.kept = r.kept <;> first | (simp [h1, h2, h3, h4, h5]; done) | (simp [h1, h2, h3, h4, h5]; omega)
def callT : Option Call → Bool
  | some (_, some _) => true
  | _ => false
def callB (v : Int) : Option Call → Bool
  | some (l, some h) => decide (l ≤ v) && decide (v ≤ h)
  | _ => false
theorem any_calls (v : Int) (cs : List Call) : (((List.range cs.length).filter fun i => callT cs[i]?).map fun i => callB v cs[i]?).any id = cs.any fun c => match c with
    | (l, some h) => decide (l ≤ v) && decide (v ≤ h)
    | (_, none) => false := by
  rw [Bool.eq_iff_iff, List.any_eq_true, List.any_eq_true]
  constructor
  · rintro ⟨b, hb, e⟩
    obtain ⟨i, hi, rfl⟩ := List.mem_map.mp hb
    have hm := List.mem_filter.mp hi
    have hlt := List.mem_range.mp hm.1
    rw [List.getElem?_eq_getElem hlt] at e
    refine ⟨cs[i], List.getElem_mem hlt, ?_⟩
    generalize cs[i] = c at e
    obtain ⟨l, o⟩ := c
    cases o with
    | none => cases e
    | some h => exact e
  · rintro ⟨c, hc, e⟩
    obtain ⟨i, hi, rfl⟩ := List.getElem_of_mem hc
    refine ⟨callB v cs[i]?, List.mem_map.mpr ⟨i, List.mem_filter.mpr ⟨List.mem_range.mpr hi, ?_⟩, rfl⟩, ?_⟩
    · rw [List.getElem?_eq_getElem hi]
      generalize cs[i] = c at e
      obtain ⟨l, o⟩ := c
      cases o with
      | none => cases e
      | some h => rfl
    · rw [List.getElem?_eq_getElem hi]
      generalize cs[i] = c at e
      obtain ⟨l, o⟩ := c
      cases o with
      | none => cases e
      | some h => exact e
/-! ## the order of strength -/
theorem prec_iff {v u : Int} (hv : 0 ≤ v) (hu : 0 ≤ u) : precB v u = true ↔ (v = 0 ∧ 0 < u) ∨ (0 < v ∧ 0 < u ∧ (lowb u < lowb v ∨ (lowb v = lowb u ∧ u < v))) := by
  unfold precB
  by_cases h1 : v = 0
  · subst h1
    simp
  · by_cases h2 : u = 0
    · subst h2
      simp [h1]
    · rw [if_neg (by simp [h1, h2])]
      by_cases h3 : lowb v = lowb u
      · rw [if_pos h3, decide_eq_true_eq]
        omega
      · rw [if_neg h3, decide_eq_true_eq]
        omega
theorem prec_irr {v : Int} (hv : 0 ≤ v) : precB v v = false := by
  cases h : precB v v with
  | false => rfl
  | true => have := (prec_iff hv hv).mp h; omega
theorem precB_tr {a b c : Int} (ha : 0 ≤ a) (hb : 0 ≤ b) (hc : 0 ≤ c) (h1 : precB a b = true) (h2 : precB b c = true) : precB a c = true := by
  rw [prec_iff ha hb] at h1
  rw [prec_iff hb hc] at h2
  rw [prec_iff ha hc]
  omega
theorem prec_tri {a b : Int} (ha : 0 ≤ a) (hb : 0 ≤ b) (ne : a ≠ b) : precB a b = true ∨ precB b a = true := by
  rw [prec_iff ha hb, prec_iff hb ha]
  omega
theorem prec_asym {a b : Int} (ha : 0 ≤ a) (hb : 0 ≤ b) (h1 : precB a b = true) (h2 : precB b a = true) : False := by
  have := precB_tr ha hb ha h1 h2
  rw [prec_irr ha] at this
  cases this
/-! ## odd multiples, strongest -/
theorem oddFrom_odd {low p : Int} (hp : 0 < p) : ∀ (c : Nat) (last : Int), last % 2 = 1 →
    (∀ v ∈ oddFrom low p c last, ∃ m, v = m * p ∧ m % 2 = 1 ∧ 0 < m ∧ m ≤ last ∧ low ≤ v) ∧ (oddFrom low p c last).Pairwise (fun a b => b < a) ∧
    (∀ m, m % 2 = 1 → 0 < m → m ≤ last → low ≤ m * p → m * p ∉ oddFrom low p c last → (oddFrom low p c last).length = c ∧ ∀ v ∈ oddFrom low p c last, m * p < v)
  | 0, last, _ => ⟨(fun v h => nomatch h), .nil, fun m _ _ _ _ _ => ⟨rfl, (fun v h => nomatch h)⟩⟩
  | c + 1, last, ho => by
    obtain ⟨i1, i2, i3⟩ := oddFrom_odd (low := low) hp c (last - 2) (by omega)
    unfold oddFrom
    by_cases hc : (decide (last > 0) && decide (last * p ≥ low)) = true
    · rw [if_pos hc]
      simp only [Bool.and_eq_true, decide_eq_true_eq] at hc
      have lt : ∀ m, m ≤ last - 2 → m * p < last * p := fun m hm => Int.mul_lt_mul_of_pos_right (by omega) hp
      refine ⟨fun v hv => ?_, List.pairwise_cons.mpr ⟨fun v hv => ?_, i2⟩, fun m h1 h2 h3 h4 h5 => ?_⟩
      · rcases List.mem_cons.mp hv with rfl | hv
        · exact ⟨last, rfl, ho, hc.1, Int.le_refl _, hc.2⟩
        · obtain ⟨m, e, a, b, c, d⟩ := i1 v hv
          exact ⟨m, e, a, b, by omega, d⟩
      · obtain ⟨m, rfl, a, b, c, d⟩ := i1 v hv
        exact lt m c
      · have ne : m ≠ last := fun e => h5 (by rw [e]; exact List.mem_cons_self ..)
        have hm : m ≤ last - 2 := by omega
        obtain ⟨j1, j2⟩ := i3 m h1 h2 hm h4 (fun z => h5 (List.mem_cons_of_mem _ z))
        refine ⟨by rw [List.length_cons, j1], fun v hv => ?_⟩
        rcases List.mem_cons.mp hv with rfl | hv
        · exact lt m hm
        · exact j2 v hv
    · rw [if_neg hc]
      refine ⟨(fun v h => nomatch h), .nil, fun m h1 h2 h3 h4 _ => ?_⟩
      exfalso
      apply hc
      simp only [Bool.and_eq_true, decide_eq_true_eq]
      have : m * p ≤ last * p := Int.mul_le_mul_of_nonneg_right h3 (by omega)
      omega
theorem lastOf_odd {hi p : Int} : lastOf hi p % 2 = 1 := by
  unfold lastOf
  by_cases h : hi / p % 2 = 0
  · rw [if_pos (decide_eq_true h)]; omega
  · rw [if_neg (by rw [decide_eq_true_eq]; exact h)]; omega
theorem le_lastOf {hi p m : Int} (hp : 0 < p) (hm : m % 2 = 1) : m ≤ lastOf hi p ↔ m * p ≤ hi := by
  rw [← Int.le_ediv_iff_mul_le hp]
  unfold lastOf
  by_cases h : hi / p % 2 = 0
  · rw [if_pos (decide_eq_true h)]; omega
  · rw [if_neg (by rw [decide_eq_true_eq]; exact h)]
theorem lowb_mul {m : Int} {k : Nat} (hm : m % 2 = 1) (h0 : 0 < m) : lowb (m * 2 ^ k) = 2 ^ k := by
  have hp : (0 : Int) < 2 ^ k := Int.pow_pos (by decide)
  refine lowb_is (Int.mul_pos h0 hp) (Int.mul_emod_left _ _) ?_
  rw [Int.mul_comm 2, Int.mul_comm m, Int.mul_emod_mul_of_pos _ _ hp, hm, Int.mul_one]
  omega
theorem of_lowb {v : Int} {k : Nat} (h0 : 0 < v) (h : lowb v = 2 ^ k) : ∃ m, v = m * 2 ^ k ∧ m % 2 = 1 ∧ 0 < m := by
  have hp : (0 : Int) < 2 ^ k := Int.pow_pos (by decide)
  obtain ⟨j, e1, e2, e3⟩ := lowb_two h0
  rw [← e1, h] at e2 e3
  have e4 : v = v / 2 ^ k * 2 ^ k := (Int.ediv_mul_cancel_of_emod_eq_zero e2).symm
  refine ⟨v / 2 ^ k, e4, ?_, ?_⟩
  · rw [e4, Int.mul_comm 2, Int.mul_comm (v / 2 ^ k), Int.mul_emod_mul_of_pos _ _ hp] at e3
    have : v / 2 ^ k % 2 ≠ 0 := fun z => e3 (by rw [z, Int.mul_zero])
    omega
  · exact Int.ediv_pos_of_pos_of_dvd h0 (by omega) (Int.dvd_of_emod_eq_zero e2)
theorem lowb_cases {v : Int} {k : Nat} (h0 : 0 < v) (h : 2 ^ k ≤ lowb v) : lowb v = 2 ^ k ∨ 2 ^ (k + 1) ≤ lowb v := by
  obtain ⟨j, e, _⟩ := lowb_two h0
  rw [e] at h ⊢
  by_cases hj : j ≤ k
  · have : (2 : Int) ^ j ≤ 2 ^ k := pow_mono hj
    exact .inl (by omega)
  · exact .inr (pow_mono (by omega))
/-- the first of S in the order, at most n of them -/
structure Top (S : Int → Prop) (n : Nat) (f : List Int) : Prop where
  len : f.length ≤ n
  pw : f.Pairwise (fun a b => precB a b = true)
  sub : ∀ v ∈ f, S v
  out : ∀ u, S u → u ∉ f → f.length = n ∧ ∀ v ∈ f, precB v u = true
structure StInv (lo hi : Int) (n k : Nat) (f : List Int) : Prop where
  len : f.length ≤ n
  pw : f.Pairwise (fun a b => precB a b = true)
  sub : ∀ v ∈ f, (lo ≤ v ∧ v ≤ hi ∧ 0 ≤ v) ∧ (v = 0 ∨ 2 ^ k ≤ lowb v)
  part : f.length < n → ∀ u, lo ≤ u → u ≤ hi → 0 ≤ u → (u = 0 ∨ 2 ^ k ≤ lowb u) → u ∈ f
  full : f.length = n → ∀ u, lo ≤ u → u ≤ hi → 0 ≤ u → u ∉ f → ∀ v ∈ f, precB v u = true
theorem stInv_step {lo hi : Int} {n k : Nat} {f : List Int} (h0 : 0 ≤ lo) (hl : f.length < n) (I : StInv lo hi n (k + 1) f) : StInv lo hi n k (f ++ oddFrom lo (2 ^ k) (n - f.length) (lastOf hi (2 ^ k))) := by
  have hp : (0 : Int) < 2 ^ k := Int.pow_pos (by decide)
  have e2 : (2 : Int) ^ (k + 1) = 2 ^ k * 2 := Int.pow_succ 2 k
  obtain ⟨i1, i2, i3⟩ := oddFrom_odd (low := lo) hp (n - f.length) (lastOf hi (2 ^ k)) lastOf_odd
  have ol := oddFrom_len (low := lo) (power := 2 ^ k) (n - f.length) (lastOf hi (2 ^ k))
  generalize oddFrom lo (2 ^ k) (n - f.length) (lastOf hi (2 ^ k)) = g at i1 i2 i3 ol
  have gm : ∀ v ∈ g, lo ≤ v ∧ v ≤ hi ∧ 0 < v ∧ lowb v = 2 ^ k := fun v hv => by
    obtain ⟨m, rfl, a, b, c, d⟩ := i1 v hv
    exact ⟨d, (le_lastOf hp a).mp c, Int.mul_pos b hp, lowb_mul a b⟩
  have fg : ∀ v ∈ f, ∀ u, 0 < u → lowb u = 2 ^ k → precB v u = true := fun v hv u hu he => by
    obtain ⟨⟨a, b, c⟩, d⟩ := I.sub v hv
    rw [prec_iff c (by omega)]
    rcases d with d | d
    · exact .inl ⟨d, hu⟩
    · by_cases z : v = 0
      · exact .inl ⟨z, hu⟩
      · exact .inr ⟨by omega, hu, .inl (by omega)⟩
  refine ⟨by rw [List.length_append]; omega, List.pairwise_append.mpr ⟨I.pw, ?_, fun a ha b hb => fg a ha b (gm b hb).2.2.1 (gm b hb).2.2.2⟩, fun v hv => ?_, fun hlen u a b c d => ?_, fun hlen u a b c d v hv => ?_⟩
  · refine i2.imp_of_mem fun {a b} ha hb hab => ?_
    have h1 := gm a ha
    have h2 := gm b hb
    rw [prec_iff (by omega) (by omega)]
    exact .inr ⟨h1.2.2.1, h2.2.2.1, .inr ⟨by rw [h1.2.2.2, h2.2.2.2], hab⟩⟩
  · rcases List.mem_append.mp hv with hv | hv
    · obtain ⟨a, b⟩ := I.sub v hv
      exact ⟨a, b.imp_right fun z => by omega⟩
    · have h1 := gm v hv
      exact ⟨⟨h1.1, h1.2.1, by omega⟩, .inr (by rw [h1.2.2.2]; exact Int.le_refl _)⟩
  · rw [List.length_append] at hlen
    by_cases z : u = 0
    · exact List.mem_append_left _ (I.part hl u a b c (.inl z))
    · have d := d.resolve_left z
      rcases lowb_cases (by omega) d with e | e
      · obtain ⟨m, rfl, hm, m0⟩ := of_lowb (by omega) e
        refine List.mem_append_right _ (Classical.byContradiction fun nm => ?_)
        have := (i3 m hm m0 ((le_lastOf hp hm).mpr b) a nm).1
        omega
      · exact List.mem_append_left _ (I.part hl u a b c (.inr e))
  · have nf : u ∉ f := fun z => d (List.mem_append_left _ z)
    have ng : u ∉ g := fun z => d (List.mem_append_right _ z)
    have u0 : u ≠ 0 := fun z => nf (I.part hl u a b c (.inl z))
    have ul : ¬ 2 ^ (k + 1) ≤ lowb u := fun z => nf (I.part hl u a b c (.inr z))
    rcases List.mem_append.mp hv with hv | hv
    · obtain ⟨⟨v1, v2, v3⟩, v4⟩ := I.sub v hv
      rw [prec_iff v3 c]
      rcases v4 with v4 | v4
      · exact .inl ⟨v4, by omega⟩
      · by_cases z : v = 0
        · exact .inl ⟨z, by omega⟩
        · exact .inr ⟨by omega, by omega, .inl (by omega)⟩
    · have h1 := gm v hv
      rw [prec_iff (by omega) c]
      refine .inr ⟨h1.2.2.1, by omega, ?_⟩
      by_cases z : 2 ^ k ≤ lowb u
      · rcases lowb_cases (by omega) z with e | e
        · obtain ⟨m, rfl, hm, m0⟩ := of_lowb (by omega) e
          exact .inr ⟨by rw [h1.2.2.2, e], (i3 m hm m0 ((le_lastOf hp hm).mpr b) a ng).2 v hv⟩
        · exact absurd e ul
      · exact .inl (by omega)
theorem strL_inv {lo hi : Int} {n : Nat} (h0 : 0 ≤ lo) : ∀ (k : Nat) (f : List Int), StInv lo hi n k f → Top (fun u => lo ≤ u ∧ u ≤ hi ∧ 0 ≤ u) n (strL lo hi n k f)
  | 0, f, I => ⟨I.len, I.pw, fun v hv => (I.sub v hv).1, fun u hu nu => by
      by_cases hl : f.length < n
      · refine absurd (I.part hl u hu.1 hu.2.1 hu.2.2 ?_) nu
        by_cases z : u = 0
        · exact .inl z
        · exact .inr (by have := lowb_pos (v := u) (by omega); simpa using this)
      · have := I.len
        have e : f.length = n := by omega
        exact ⟨e, I.full e u hu.1 hu.2.1 hu.2.2 nu⟩⟩
  | k + 1, f, I => by
    unfold strL
    by_cases hl : f.length < n
    · rw [if_pos hl]
      exact strL_inv h0 k _ (stInv_step h0 hl I)
    · rw [if_neg hl]
      have := I.len
      exact ⟨I.len, I.pw, fun v hv => (I.sub v hv).1, fun u hu nu => ⟨by omega, I.full (by omega) u hu.1 hu.2.1 hu.2.2 nu⟩⟩
theorem lt_bits {u : Int} (h : 0 ≤ u) : u < 2 ^ Builtin.Int.intBits u := by
  have := PyProof.Rows.natAbs_lt_pow_bits u
  have e : ((2 ^ Builtin.Int.intBits u : Nat) : Int) = 2 ^ Builtin.Int.intBits u := by simp [Int.natCast_pow]
  omega
theorem strongL_top {lo hi : Int} {n : Nat} (h0 : 0 ≤ lo) (h1 : 0 ≤ hi) : Top (fun u => lo ≤ u ∧ u ≤ hi ∧ 0 ≤ u) n (strongL lo hi n) := by
  unfold strongL
  refine strL_inv h0 _ _ ?_
  have no : ∀ u, 0 < u → u ≤ hi → ¬ (2 : Int) ^ (Builtin.Int.intBits hi + 1) ≤ lowb u := fun u hu hl z => by
    have := lt_bits h1
    have := (lowb_le hu).2
    have e2 : (2 : Int) ^ (Builtin.Int.intBits hi + 1) = 2 ^ Builtin.Int.intBits hi * 2 := Int.pow_succ 2 _
    omega
  by_cases z : (decide (lo = 0) && decide ((n : Int) > 0)) = true
  · rw [if_pos z]
    simp only [Bool.and_eq_true, decide_eq_true_eq] at z
    refine ⟨by simp; omega, by simp, fun v hv => ?_, fun hl u a b c d => ?_, fun hl u a b c d v hv => ?_⟩
    · simp at hv; subst hv; exact ⟨⟨by omega, h1, Int.le_refl _⟩, .inl rfl⟩
    · rcases d with d | d
      · simp [d]
      · by_cases z0 : u = 0
        · simp [z0]
        · exact absurd d (no u (by omega) b)
    · simp at hv d; subst hv
      rw [prec_iff (Int.le_refl _) c]
      exact .inl ⟨rfl, by omega⟩
  · rw [if_neg z]
    simp only [Bool.and_eq_true, decide_eq_true_eq] at z
    refine ⟨Nat.zero_le _, .nil, (fun v hv => nomatch hv), fun hl u a b c d => ?_, (fun hl u a b c d v hv => nomatch hv)⟩
    exfalso
    rcases d with d | d
    · exact z ⟨by omega, by simpa using hl⟩
    · by_cases z0 : u = 0
      · exact z ⟨by omega, by simpa using hl⟩
      · exact no u (by omega) b d
/-! ## the weakest ones go -/
theorem wkF_weak : ∀ (r : List Int) (f : Int), 0 ≤ f → (∀ v ∈ r, 0 ≤ v) → ∀ v ∈ f :: r, v = wkF f r ∨ precB v (wkF f r) = true
  | [], f, _, _, v, h => by simp at h; exact .inl h
  | x :: r, f, hf, hr, v, h => by
    have hx : 0 ≤ x := hr x (List.mem_cons_self ..)
    have hr' : ∀ v ∈ r, 0 ≤ v := fun v hv => hr v (List.mem_cons_of_mem _ hv)
    show v = wkF (if precB f x = true then x else f) r ∨ precB v (wkF (if precB f x = true then x else f) r) = true
    by_cases c : precB f x = true
    · rw [if_pos c]
      have ih := wkF_weak r x hx hr'
      have w0 : 0 ≤ wkF x r := by
        rcases wkF_mem r x with e | e
        · rw [e]; exact hx
        · exact hr' _ e
      rcases List.mem_cons.mp h with rfl | h
      · rcases ih x (List.mem_cons_self ..) with e | e
        · exact .inr (e ▸ c)
        · exact .inr (precB_tr hf hx w0 c e)
      · exact ih v h
    · rw [if_neg c]
      have ih := wkF_weak r f hf hr'
      have w0 : 0 ≤ wkF f r := by
        rcases wkF_mem r f with e | e
        · rw [e]; exact hf
        · exact hr' _ e
      rcases List.mem_cons.mp h with rfl | h
      · exact ih v (List.mem_cons_self ..)
      · rcases List.mem_cons.mp h with rfl | h
        · by_cases e : v = f
          · subst e; exact ih v (List.mem_cons_self ..)
          · have c2 : precB v f = true := (prec_tri hx hf e).resolve_right c
            rcases ih f (List.mem_cons_self ..) with e2 | e2
            · exact .inr (e2 ▸ c2)
            · exact .inr (precB_tr hx hf w0 c2 e2)
        · exact ih v (List.mem_cons_of_mem _ h)
theorem wk_weak {xs : List Int} (hn : ∀ v ∈ xs, 0 ≤ v) {v : Int} (h : v ∈ xs) : v = wk xs ∨ precB v (wk xs) = true := by
  cases xs with
  | nil => cases h
  | cons x r => exact wkF_weak r x (hn x (List.mem_cons_self ..)) (fun v hv => hn v (List.mem_cons_of_mem _ hv)) v h
theorem dropW_top : ∀ (n : Nat) (xs : List Int), n ≤ xs.length → xs.Nodup → (∀ v ∈ xs, 0 ≤ v) → (dropW n xs).Nodup ∧ ∀ u ∈ xs, u ∉ dropW n xs → ∀ v ∈ dropW n xs, precB v u = true
  | 0, xs, _, hd, _ => ⟨hd, fun u hu nu => absurd hu nu⟩
  | n + 1, xs, hl, hd, hn => by
    have ne : xs ≠ [] := fun e => by subst e; simp at hl
    have el : (xs.erase (wk xs)).length = xs.length - 1 := List.length_erase_of_mem (wk_mem ne)
    obtain ⟨i1, i2⟩ := dropW_top n (xs.erase (wk xs)) (by omega) (hd.erase _) fun v hv => hn v (List.mem_of_mem_erase hv)
    refine ⟨i1, fun u hu nu v hv => ?_⟩
    have hv' : v ∈ xs.erase (wk xs) := dropW_sub n _ v hv
    by_cases e : u = wk xs
    · subst e
      have := (List.Nodup.mem_erase_iff hd).mp hv'
      exact (wk_weak hn this.2).resolve_left this.1
    · exact i2 u ((List.Nodup.mem_erase_iff hd).mpr ⟨e, hu⟩) nu v hv
theorem nodup_len : ∀ {l m : List Int}, l.Nodup → (∀ x ∈ l, x ∈ m) → l.length ≤ m.length
  | [], m, _, _ => Nat.zero_le _
  | x :: l, m, hd, hs => by
    have ⟨h1, h2⟩ := List.nodup_cons.mp hd
    have hx : x ∈ m := hs x (List.mem_cons_self ..)
    have := nodup_len (l := l) (m := m.erase x) h2 fun y hy => (List.mem_erase_of_ne (show y ≠ x from fun e => h1 (e ▸ hy))).mpr (hs y (List.mem_cons_of_mem _ hy))
    have el := List.length_erase_of_mem hx
    have : 0 < m.length := List.length_pos_of_mem hx
    rw [List.length_cons]
    omega
theorem lt_nodup {l : List Int} (h : l.Pairwise (· < ·)) : l.Nodup := h.imp fun hab => by omega
theorem mem_eq : ∀ {l m : List Int}, l.Pairwise (· < ·) → m.Pairwise (· < ·) → (∀ x, x ∈ l ↔ x ∈ m) → l = m
  | [], [], _, _, _ => rfl
  | [], y :: m, _, _, h => by have := (h y).mpr (List.mem_cons_self ..); cases this
  | x :: l, [], _, _, h => by have := (h x).mp (List.mem_cons_self ..); cases this
  | x :: l, y :: m, h1, h2, h => by
    have ⟨a1, a2⟩ := List.pairwise_cons.mp h1
    have ⟨b1, b2⟩ := List.pairwise_cons.mp h2
    have e : x = y := by
      have m1 := (h x).mp (List.mem_cons_self ..)
      have m2 := (h y).mpr (List.mem_cons_self ..)
      rcases List.mem_cons.mp m1 with e | e
      · exact e
      rcases List.mem_cons.mp m2 with e2 | e2
      · exact e2.symm
      have := b1 x e
      have := a1 y e2
      omega
    subst e
    rw [mem_eq a2 b2 fun z => ?_]
    constructor
    · intro hz
      have := a1 z hz
      exact (List.mem_cons.mp ((h z).mp (List.mem_cons_of_mem _ hz))).resolve_left (by omega)
    · intro hz
      have := b1 z hz
      exact (List.mem_cons.mp ((h z).mpr (List.mem_cons_of_mem _ hz))).resolve_left (by omega)
/-- the n strongest of A, ascending -/
structure Kd (A : Int → Prop) (n : Nat) (ks : List Int) : Prop where
  len : ks.length = n
  pw : ks.Pairwise (· < ·)
  sub : ∀ v ∈ ks, A v
  out : ∀ u, A u → u ∉ ks → ∀ v ∈ ks, precB v u = true
theorem Kd.sub_of {A : Int → Prop} {n : Nat} {ks ls : List Int} (nn : ∀ u, A u → 0 ≤ u) (h : Kd A n ks) (g : Kd A n ls) : ∀ u ∈ ks, u ∈ ls := fun u hu => Classical.byContradiction fun nu => by
  obtain ⟨x, hx, nx⟩ : ∃ x ∈ ls, x ∉ ks := Classical.byContradiction fun hh => by
    have := nodup_len (l := ls) (m := ks.erase u) (lt_nodup g.pw) fun x hx => by
      have hk : x ∈ ks := Classical.byContradiction fun z => hh ⟨x, hx, z⟩
      exact (List.mem_erase_of_ne (show x ≠ u from fun e => nu (e ▸ hx))).mpr hk
    rw [List.length_erase_of_mem hu, h.len, g.len] at this
    have := List.length_pos_of_mem hu
    have := h.len
    omega
  exact prec_asym (nn _ (h.sub u hu)) (nn _ (g.sub x hx)) (h.out x (g.sub x hx) nx u hu) (g.out u (h.sub u hu) nu x hx)
theorem Kd.uniq {A : Int → Prop} {n : Nat} {ks ls : List Int} (nn : ∀ u, A u → 0 ≤ u) (h : Kd A n ks) (g : Kd A n ls) : ks = ls :=
  mem_eq h.pw g.pw fun u => ⟨h.sub_of nn g u, g.sub_of nn h u⟩
theorem srt_lt {xs : List Int} (h : xs.Nodup) : (srt xs).Pairwise (· < ·) := by
  have h1 := srt_pw xs
  have h2 : (srt xs).Nodup := (srt_perm xs).nodup_iff.mpr h
  exact h1.imp₂ (fun a b hab hne => by omega) h2
theorem kd_srt {A : Int → Prop} {n : Nat} {xs : List Int} (hl : xs.length = n) (hd : xs.Nodup) (hs : ∀ v ∈ xs, A v) (ho : ∀ u, A u → u ∉ xs → ∀ v ∈ xs, precB v u = true) : Kd A n (srt xs) :=
  ⟨by rw [(srt_perm xs).length_eq, hl], srt_lt hd, fun v hv => hs v ((srt_perm xs).mem_iff.mp hv), fun u hu nu v hv => ho u hu (fun z => nu ((srt_perm xs).mem_iff.mpr z)) v ((srt_perm xs).mem_iff.mp hv)⟩
/-! ## a range arrives as its versions one by one -/
theorem rgI_succ {lo h : Int} (hl : lo ≤ h + 1) : rgI lo (h + 1) = rgI lo h ++ [h + 1] := by
  unfold rgI
  have e : (h + 1 - lo + 1).toNat = (h - lo + 1).toNat + 1 := by omega
  rw [e, List.range_succ, List.map_append]
  have e2 : lo + (((h - lo + 1).toNat : Nat) : Int) = h + 1 := by omega
  rw [List.map_cons, List.map_nil, e2]
theorem rgI_pw : ∀ (lo hi : Int), (rgI lo hi).Pairwise (· < ·) := fun lo hi => by
  unfold rgI
  rw [List.pairwise_map]
  exact List.pairwise_lt_range.imp fun h => by omega
/-- what may wait -/
def Cand (w : List Int) (lo hi : Int) (u : Int) : Prop := u ∈ w ∨ (lo ≤ u ∧ u ≤ hi)
theorem Cand.nn {w : List Int} {lo hi u : Int} {cap : Nat} (k : WOk w lo cap) (h : Cand w lo hi u) : 0 ≤ u := by
  rcases h with h | h
  · exact (k.b u h).1
  · have := k.l0; omega
theorem aftR_small {w : List Int} {lo hi : Int} {cap : Nat} (h : (w.length : Int) + hi - lo + 1 ≤ cap) : aftR w lo hi cap = w ++ rgI lo hi := if_pos h
theorem aftR_great {w : List Int} {lo hi : Int} {cap : Nat} (k : WOk w lo cap) (sw : w.Pairwise (· < ·)) (hl : lo ≤ hi) (h : ¬ (w.length : Int) + hi - lo + 1 ≤ cap) :
    ∃ ks, aftR w lo hi cap = ks ++ [hi] ∧ Kd (Cand w lo (hi - 1)) (cap - 1) ks := by
  have c2 := k.c2
  have l0 := k.l0
  have h1 : 1 ≤ hi := by
    by_cases e : hi = 0
    · exact absurd (k.hi0 hl e) h
    · omega
  have tp := strongL_top (lo := lo) (hi := hi - 1) (n := cap - 1) l0 (by omega)
  refine ⟨_, if_neg h, ?_⟩
  have hS := tp.sub
  have onn : ∀ v ∈ othR w lo hi cap, 0 ≤ v := fun v hv => by
    rcases List.mem_append.mp hv with z | z
    · exact (k.b v z).1
    · exact (hS v z).2.2
  have snd : (strongL lo (hi - 1) (cap - 1)).Nodup := by
    refine tp.pw.imp_of_mem fun {a b} ha hb hab e => ?_
    subst e
    rw [prec_irr (hS a ha).2.2] at hab
    cases hab
  have ond : (othR w lo hi cap).Nodup := by
    refine List.nodup_append.mpr ⟨lt_nodup sw, snd, fun a ha b hb e => ?_⟩
    subst e
    have := k.b a ha
    have := hS a hb
    omega
  have olen : cap - 1 ≤ (othR w lo hi cap).length := by
    unfold othR
    rw [List.length_append]
    refine Classical.byContradiction fun hlt => ?_
    have all : ∀ u, lo ≤ u → u ≤ hi - 1 → u ∈ strongL lo (hi - 1) (cap - 1) := fun u a b => Classical.byContradiction fun nu => by
      have := (tp.out u ⟨a, b, by omega⟩ nu).1
      omega
    have := nodup_len (l := rgI lo (hi - 1)) (lt_nodup (rgI_pw _ _)) fun x hx => all x (rgI_mem.mp hx).1 (rgI_mem.mp hx).2
    rw [rgI_len] at this
    omega
  obtain ⟨d1, d2⟩ := dropW_top ((othR w lo hi cap).length - (cap - 1)) (othR w lo hi cap) (by omega) ond onn
  have dl := dropW_len ((othR w lo hi cap).length - (cap - 1)) (othR w lo hi cap) (by omega)
  have ds := dropW_sub ((othR w lo hi cap).length - (cap - 1)) (othR w lo hi cap)
  generalize dropW ((othR w lo hi cap).length - (cap - 1)) (othR w lo hi cap) = D at d1 d2 dl ds
  refine kd_srt (by omega) d1 (fun v hv => ?_) fun u hu nu v hv => ?_
  · rcases List.mem_append.mp (ds v hv) with z | z
    · exact .inl z
    · exact .inr ⟨(hS v z).1, (hS v z).2.1⟩
  · by_cases hm : u ∈ othR w lo hi cap
    · exact d2 u hm nu v hv
    · have nw : u ∉ w := fun z => hm (List.mem_append_left _ z)
      have nS : u ∉ strongL lo (hi - 1) (cap - 1) := fun z => hm (List.mem_append_right _ z)
      have hr := hu.resolve_left nw
      have to := tp.out u ⟨hr.1, hr.2, by omega⟩ nS
      by_cases vS : v ∈ strongL lo (hi - 1) (cap - 1)
      · exact to.2 v vS
      · obtain ⟨s, hs, ns⟩ : ∃ s ∈ strongL lo (hi - 1) (cap - 1), s ∉ D := Classical.byContradiction fun hh => by
          have := nodup_len (l := strongL lo (hi - 1) (cap - 1)) (m := D.erase v) snd fun s hs => by
            have hd : s ∈ D := Classical.byContradiction fun z => hh ⟨s, hs, z⟩
            exact (List.mem_erase_of_ne (show s ≠ v from fun e => vS (e ▸ hs))).mpr hd
          rw [List.length_erase_of_mem hv, to.1] at this
          have := List.length_pos_of_mem hv
          omega
        exact precB_tr (onn v (ds v hv)) (hS s hs).2.2 (by omega) (d2 s (List.mem_append_right _ hs) ns v hv) (to.2 s hs)
theorem append_lt {ks : List Int} {x : Int} (h : ks.Pairwise (· < ·)) (hx : ∀ v ∈ ks, v < x) : (ks ++ [x]).Pairwise (· < ·) :=
  List.pairwise_append.mpr ⟨h, by simp, fun a ha b hb => by simp at hb; subst hb; exact hx a ha⟩
theorem Cand.lt {w : List Int} {lo hi u : Int} {cap : Nat} (k : WOk w lo cap) (hl : lo ≤ hi + 1) (h : Cand w lo hi u) : u < hi + 1 := by
  rcases h with h | h
  · have := k.b u h; omega
  · omega
theorem aftR_pw {w : List Int} {lo hi : Int} {cap : Nat} (k : WOk w lo cap) (sw : w.Pairwise (· < ·)) (hl : lo ≤ hi) : (aftR w lo hi cap).Pairwise (· < ·) := by
  by_cases h : (w.length : Int) + hi - lo + 1 ≤ cap
  · rw [aftR_small h]
    refine List.pairwise_append.mpr ⟨sw, rgI_pw _ _, fun a ha b hb => ?_⟩
    have := k.b a ha
    have := rgI_mem.mp hb
    omega
  · obtain ⟨ks, e, kd⟩ := aftR_great k sw hl h
    rw [e]
    refine append_lt kd.pw fun v hv => ?_
    have := (kd.sub v hv).lt k (by omega)
    omega
theorem aftR_cand {w : List Int} {lo hi : Int} {cap : Nat} (k : WOk w lo cap) (sw : w.Pairwise (· < ·)) (hl : lo ≤ hi) : ∀ v ∈ aftR w lo hi cap, Cand w lo hi v := fun v hv => by
  by_cases h : (w.length : Int) + hi - lo + 1 ≤ cap
  · rw [aftR_small h] at hv
    rcases List.mem_append.mp hv with z | z
    · exact .inl z
    · exact .inr (rgI_mem.mp z)
  · obtain ⟨ks, e, kd⟩ := aftR_great k sw hl h
    rw [e] at hv
    rcases List.mem_append.mp hv with z | z
    · exact (kd.sub v z).imp_right fun z => ⟨z.1, by omega⟩
    · simp at z; exact .inr (by omega)
/-- who does not wait is weaker than all that do, but the newest -/
theorem aftR_out {w : List Int} {lo hi : Int} {cap : Nat} (k : WOk w lo cap) (sw : w.Pairwise (· < ·)) (hl : lo ≤ hi) : ∀ u, Cand w lo hi u → u ∉ aftR w lo hi cap → ∀ v ∈ aftR w lo hi cap, v ≠ hi → precB v u = true := fun u hu nu v hv nv => by
  by_cases h : (w.length : Int) + hi - lo + 1 ≤ cap
  · rw [aftR_small h] at nu
    refine absurd ?_ nu
    rcases hu with z | z
    · exact List.mem_append_left _ z
    · exact List.mem_append_right _ (rgI_mem.mpr z)
  · obtain ⟨ks, e, kd⟩ := aftR_great k sw hl h
    rw [e] at nu hv
    have hu2 : u ≠ hi := fun z => nu (by rw [z]; simp)
    have hv2 : v ∈ ks := (List.mem_append.mp hv).resolve_right (by simpa using nv)
    exact kd.out u (hu.imp_right fun z => ⟨z.1, by omega⟩) (fun z => nu (List.mem_append_left _ z)) v hv2
theorem aft_step {w : List Int} {lo h : Int} {cap : Nat} (k : WOk w lo cap) (sw : w.Pairwise (· < ·)) (hl : lo ≤ h) : aftR w lo (h + 1) cap = aftR (aftR w lo h cap) (h + 1) (h + 1) cap := by
  have c2 := k.c2
  have l0 := k.l0
  have kpw := aftR_pw k sw hl
  have kc := aftR_cand k sw hl
  have ko := aftR_out k sw hl
  have klen := aftR_len (lo := lo) (hi := h) (by omega : 1 ≤ cap) k.len
  have k2 : WOk (aftR w lo h cap) (h + 1) cap := ⟨k.c2, k.c9, klen, by omega, fun v hv => by
    have := (kc v hv).lt k (by omega)
    have := (kc v hv).nn k
    omega⟩
  by_cases hs : (w.length : Int) + (h + 1) - lo + 1 ≤ cap
  · rw [aftR_small hs, aftR_small (w := aftR w lo h cap) (by rw [aftR_small (by omega), List.length_append, rgI_len]; omega), aftR_small (by omega : (w.length : Int) + h - lo + 1 ≤ cap), rgI_succ (by omega), List.append_assoc]
    congr 1
    congr 1
    unfold rgI
    have e : (h + 1 - (h + 1) + 1).toNat = 1 := by omega
    rw [e]
    simp
  · obtain ⟨ks, e, kd⟩ := aftR_great k sw (by omega) hs
    have elen : (aftR w lo h cap).length = cap := by
      by_cases hs2 : (w.length : Int) + h - lo + 1 ≤ cap
      · rw [aftR_small hs2, List.length_append, rgI_len]
        omega
      · obtain ⟨ls, e2, kd2⟩ := aftR_great k sw hl hs2
        rw [e2, List.length_append, kd2.len]
        simp
        omega
    obtain ⟨ls, e2, kd2⟩ := aftR_great k2 kpw (Int.le_refl _) (by omega)
    rw [e, e2]
    congr 1
    refine kd.uniq (fun u hu => hu.nn k) ⟨kd2.len, kd2.pw, fun v hv => ?_, fun u hu nu v hv => ?_⟩
    · have e3 : h + 1 - 1 = h := by omega
      rw [e3]
      exact kc v ((kd2.sub v hv).resolve_right (by omega))
    · have e3 : h + 1 - 1 = h := by omega
      rw [e3] at hu
      have hvK : v ∈ aftR w lo h cap := (kd2.sub v hv).resolve_right (by omega)
      by_cases hK : u ∈ aftR w lo h cap
      · exact kd2.out u (.inl hK) nu v hv
      · by_cases evh : v = h
        · obtain ⟨x, hx, nx⟩ : ∃ x ∈ aftR w lo h cap, x ∉ ls := Classical.byContradiction fun hh => by
            have := nodup_len (l := aftR w lo h cap) (m := ls) (lt_nodup kpw) fun x hx => Classical.byContradiction fun z => hh ⟨x, hx, z⟩
            rw [elen, kd2.len] at this
            omega
          have nxh : x ≠ h := fun z => nx (by rw [z, ← evh]; exact hv)
          exact precB_tr ((kc v hvK).nn k) ((kc x hx).nn k) (hu.nn k) (kd2.out x (.inl hx) nx v hv) (ko u hu hK x hx nxh)
        · exact ko u hu hK v hvK evh
/-! ## sorted(xs, key=f), f an own def: the two lists of the sort as a footprint -/
section
open PySem.W (KeepsBut AllAlike Sortable KeyedOut EachIs SortsAt dataKind keyH_end keyedOut_each dataLe)
variable {X : Cx} {pins : List (Addr × Obj)} {σ : St} {H0 H H1 : Hp} {s0 s : Shared} {A : Around} {a kS : Addr} {f : Value} {b : Bool} {vs : List Value} {e1 : Nat} {kz : List PyData} {P : PySem.Fin → Shared → Prop} {E : Value → Shared → Prop}
end
/-! ## the reading -/
section
variable {X : Cx} {j k : Nat} {W : WX} {e : Expr} {es : List Expr} {kws : List Keyword} {σ : St} {H H1 : Hp} {Q : VK} {pos p : Pos} {to : RX} {tk : RA} {n x : Str} {sp : Sp}
end
/-! ## xs[::-1] -/
section
variable {X : Cx} {j : Nat} {W : WX} {e st : Expr} {σ : St} {H H1 : Hp} {Q : VK} {pos p2 : Pos} {to ts : RX}
end
/-! ## x != y of two instances of a class with its own ==, without its own != -/
section
variable {prog : Program} {w : World} {A : Around} {E : Value → Shared → Prop} {s : Shared} {K : PySem.W.Frag} {x y C L f : Addr} {h₀ : Heap} {m : Str → Option Value} {ox oy : Obj} {od od' : Option Obj}
theorem ifBound_slot {M : Model} {name : Str} {T id : String} {args : List Value} {Q : Option Value → Shared → Prop} (S : PySem.Slot T name id) (X : K.In s.heap) (I : PySem.W.InstAt s.heap x ox C od) (hs : PySem.W.findIn K (.ref C) name = some (some (.builtin id)))
    (h : wpAny M A (call (.builtin id) (.ref x :: args)) (fun v => Q (some v)) E s) : wpAny M A (callSpecialIfBound? (.ref x) name args) Q E s := by
  simp only [callSpecialIfBound?, bindSpecialIfBound?]
  refine wpAny_holding (wpAny_bind (wpAny_bind (wpAny_bind (I.type.here ((PySem.W.looks_findIn X hs).here ?_)))))
  refine wpAny_bind (wpAny_askSetting (wpAny_ite ?_))
  have fin : wpAny M A (call (.builtin id) ([.ref x] ++ args) >>= fun v => pure (some v)) Q E s := wpAny_bind (wpAny_mono h (fun v s' h' => wpAny_pure h') fun _ _ h' => h')
  split
  · rw [S.bind]
    exact wpAny_bind (wpAny_pure (wpAny_pure (by exact fin)))
  · rw [S.bind]
    exact wpAny_tryCatch (wpAny_bind (wpAny_pure (wpAny_pure (by exact fin))))
open Builtin in
theorem objNe_K {Q : PySem.Fin → Shared → Prop} (hu : A.units < cLine) (X : K.In s.heap) (I : PySem.W.InstAt s.heap x ox C od) (hs : PySem.W.findIn K (.ref C) "__eq__" = some (some (.ref f))) (hf : PySem.W.isFn K (.ref f) = true)
    (hcall : wpAny (model prog w) A (call (.ref f) [.ref x, .ref y]) (fun v s' => ∃ b, v = .bool b ∧ Q (.done (.ret (.bool (!b)))) s') E s) : wpAny (model prog w) A (Builtin.«object.__ne__» ⟨[.ref x, .ref y], []⟩) Q E s := by
  unfold Builtin.«object.__ne__»
  repeat (first
    | with_reducible refine wpAny_cRoomFor hu ?_
    | (refine wpAny_bind (m := callSpecialIfBound? (.ref x) (Str.ofString "__eq__") [.ref y])
        (PySem.W.ifBound_K X I hs hf (wpAny_mono hcall (fun r s' hr => by
          obtain ⟨b, rfl, hq⟩ := hr
          repeat (first | exact hq | exact wpAny_pure hq | exact wpAny_truthy_bool hq | (refine wpAny_bind (m := truthy (.bool _)) (wpAny_truthy_bool ?_)) | wp_step)) fun _ _ e => e)))
    | wp_step)
theorem ne_K {Q : Value → Shared → Prop} (hu : A.units + 1 < cLine) (F : PyProof.Rows.Fr h₀ L s.heap m) (X₀ : K.In h₀) (I : PySem.W.InstAt s.heap x ox C od) (I' : PySem.W.InstAt s.heap y oy C od') (hne : PySem.W.findIn K (.ref C) "__ne__" = some (some (.builtin "object.__ne__"))) (hob : PySem.W.subIn K (.ref C) (.type "object") = some true)
    (hs : PySem.W.findIn K (.ref C) "__eq__" = some (some (.ref f))) (hf : PySem.W.isFn K (.ref f) = true)
    (h : wpAny (model prog w) A.in1 (call (.ref f) [.ref x, .ref y]) (fun v s' => ∃ r, v = .bool r ∧ Q (.bool (!r)) s') E s) : wpAny (model prog w) A (richCompare .NotEq (.ref x) (.ref y)) Q E s := by
  have X := X₀.keeps F.keep
  have one : wpAny (model prog w) A (tryCompare (.ref x) "__ne__" (.ref y)) (fun r s' => ∃ v, r = some v ∧ Q v s') E s := by
    unfold tryCompare
    refine wpAny_bind (ifBound_slot PySem.F.cmp_object.ne X I hne ?_)
    refine wpAny_call (codeAny_call_builtin PySem.F.cmp_object.ne.plain PySem.F.cmpEntry_ne (PySem.W.check_slot PySem.F.cmpKind_ne PySem.F.cmpSplit_ne (I.type.andThen (PySem.W.looks_subIn X hob)) (PySem.F.cmpArgs_ne _ _) ?_))
    refine objNe_K (A := A.in1) hu X I hs hf (wpAny_mono h (fun v s' hv => ?_) fun _ _ e => e)
    obtain ⟨r, rfl, hq⟩ := hv
    first | exact ⟨r, rfl, wpAny_pure ⟨_, rfl, hq⟩⟩ | exact ⟨r, rfl, wpAny_pure (wpAny_pure ⟨_, rfl, hq⟩)⟩ | exact ⟨r, rfl, ⟨_, rfl, hq⟩⟩
  unfold richCompare
  simp only [oneThing_ref]
  refine wpAny_holding (wpAny_bind (wpAny_cRoomFor (by omega) ?_))
  rw [cmpInfo_NotEq]
  dsimp only
  refine wpAny_bind (I.type.here (wpAny_bind (I'.type.here ?_)))
  rw [show (Value.ref C != Value.ref C) = false from by simp]
  simp only [Bool.false_eq_true, if_false]
  refine wpAny_bind (wpAny_pure ?_)
  simp only [Bool.false_eq_true, if_false]
  refine wpAny_bind (wpAny_mono one (fun r s' z => ?_) fun _ _ e => e)
  obtain ⟨v, rfl, hq⟩ := z
  first | exact wpAny_pure hq | exact wpAny_pure (wpAny_pure hq)
end
section
variable {X : Cx} {j : Nat} {C : Addr} {k : Nat}
def oNeO (C : Addr) (sp : Sp) : RO := fun x y H Q => ∃ a dx fs b dy gs, x = .ref a ∧ y = .ref b ∧ H a = some (.ins C dx fs) ∧ H b = some (.ins C dy gs) ∧ sp [x, y] H (fun v H2 => ∃ r, v = .bl r ∧ Q (.bl (!r)) H2) fun _ _ _ => False
/-- what != asks of a class without its own one -/
structure NeC (K : PySem.W.Frag) (C : Addr) : Prop where
  ne : PySem.W.findIn K (.ref C) "__ne__" = some (some (.builtin "object.__ne__"))
  ob : PySem.W.subIn K (.ref C) (.type "object") = some true
theorem o_neO {sp : Sp} {ps : List Str} (Cm : CalM X.prog X.w X.K X.mg X.base C "__eq__" k ps [] sp) (N : NeC X.K C) (hkj : k + 1 ≤ j := by decide) (hcm : X.calm = true := by rfl) : SOc X j (compareOp .NotEq) (oNeO C sp) := by
  obtain ⟨f, fd, ds, F, hmt, hb, hd⟩ := Cm.ex
  cases hd
  refine ⟨fun c x y H Q ⟨a, dx, fs, b, dy, gs, e1, e2, h1, h2, q⟩ H1 x1 pins s σ v u I r1 r2 => ?_⟩
  subst e1 e2
  obtain rfl : v = Value.ref a := r1
  obtain rfl : u = Value.ref b := r2
  obtain ⟨m, od, hF, J⟩ := inst_of I (x1 _ _ h1)
  obtain ⟨m', od', hF', J'⟩ := inst_of I (x1 _ _ h2)
  have rm := ((c.mono hkj).room hcm)
  refine ne_K (by have := rm.un; omega) hF I.ok.mod.kin J J' N.ne N.ob hmt.at_ hmt.fn ?_
  refine wpAny_mono (run_fngA (W := fun _ _ _ _ => False) (A := X.A.in1) (us := [.ref a, .ref b]) (vs := [.ref a, .ref b]) F rm.in1 c.gd rfl (c.tk.imp fun cl d σ H ⟨_, _, z⟩ => z.elim) hb I x1 (.cons rfl (.cons rfl .nil)) q) (fun v s' ⟨z, H4, I4, rz, H5, x5, r, ez, qz⟩ => ?_) fun _ _ x => x
  subst ez
  cases rz
  exact ⟨r, rfl, .bl _, H4, I4, rfl, H5, x5, qz⟩
end
/-! ## what waits when some versions have arrived, one by one -/
structure Due (cap : Nat) (some kept : List Int) : Prop where
  small : some.length ≤ cap → kept = some
  great : cap < some.length → ∃ ks l d, some = d ++ [l] ∧ kept = ks ++ [l] ∧ Kd (fun u => u ∈ d) (cap - 1) ks
theorem Due.self {cap : Nat} {some : List Int} (h : some.length ≤ cap) : Due cap some some := ⟨fun _ => rfl, fun z => by omega⟩
theorem Due.uniq {cap : Nat} {some k1 k2 : List Int} (nn : ∀ u ∈ some, 0 ≤ u) (a : Due cap some k1) (b : Due cap some k2) : k1 = k2 := by
  by_cases h : some.length ≤ cap
  · rw [a.small h, b.small h]
  · obtain ⟨ks, l, d, e1, e2, kd⟩ := a.great (by omega)
    obtain ⟨ks', l', d', e1', e2', kd'⟩ := b.great (by omega)
    obtain ⟨rfl, e⟩ := List.append_inj' (e1.symm.trans e1') rfl
    have e : l = l' := by simpa using e
    subst e
    rw [e2, e2', kd.uniq (fun u hu => nn u (by rw [e1]; exact List.mem_append_left _ hu)) kd']
theorem Due.sub {cap : Nat} {some kept : List Int} (a : Due cap some kept) : ∀ v ∈ kept, v ∈ some := fun v hv => by
  by_cases h : some.length ≤ cap
  · rw [a.small h] at hv; exact hv
  · obtain ⟨ks, l, d, e1, e2, kd⟩ := a.great (by omega)
    rw [e2] at hv
    rw [e1]
    rcases List.mem_append.mp hv with z | z
    · exact List.mem_append_left _ (kd.sub v z)
    · exact List.mem_append_right _ z
theorem Due.len {cap : Nat} {some kept : List Int} (c : 1 ≤ cap) (a : Due cap some kept) : kept.length ≤ cap := by
  by_cases h : some.length ≤ cap
  · rw [a.small h]; exact h
  · obtain ⟨ks, l, d, e1, e2, kd⟩ := a.great (by omega)
    rw [e2, List.length_append, kd.len]
    simp
    omega
theorem Due.pw {cap : Nat} {some kept : List Int} (p : some.Pairwise (· < ·)) (a : Due cap some kept) : kept.Pairwise (· < ·) := by
  by_cases h : some.length ≤ cap
  · rw [a.small h]; exact p
  · obtain ⟨ks, l, d, e1, e2, kd⟩ := a.great (by omega)
    rw [e2]
    rw [e1] at p
    exact append_lt kd.pw fun v hv => (List.pairwise_append.mp p).2.2 v (kd.sub v hv) l (by simp)
theorem due_push {cap : Nat} {some kept : List Int} {v : Int} (c2 : 2 ≤ cap) (c9 : cap ≤ 9) (pw : (some ++ [v]).Pairwise (· < ·)) (nn : ∀ u ∈ some, 0 ≤ u) (v0 : 0 ≤ v) (D : Due cap some kept) : Due cap (some ++ [v]) (aftR kept v v cap) := by
  have lt : ∀ u ∈ some, u < v := fun u hu => (List.pairwise_append.mp pw).2.2 u hu v (by simp)
  have pws := (List.pairwise_append.mp pw).1
  have klen := D.len (by omega)
  have kpw := D.pw pws
  have k : WOk kept v cap := ⟨c2, c9, klen, v0, fun u hu => by
    have := D.sub u hu
    have := nn u this
    have := lt u (D.sub u hu)
    omega⟩
  have e1 : rgI v v = [v] := by
    unfold rgI
    have e : (v - v + 1).toNat = 1 := by omega
    rw [e]
    simp
  by_cases h : some.length + 1 ≤ cap
  · rw [D.small (by omega)]
    rw [aftR_small (by omega), e1]
    exact .self (by simp; omega)
  · by_cases h2 : some.length ≤ cap
    · have ek := D.small h2
      subst ek
      obtain ⟨ks, e, kd⟩ := aftR_great k kpw (Int.le_refl _) (by omega)
      refine ⟨fun z => by simp at z; omega, fun _ => ⟨ks, v, _, rfl, e, kd.len, kd.pw, fun u hu => (kd.sub u hu).resolve_right (by omega), fun u hu nu x hx => kd.out u (.inl hu) nu x hx⟩⟩
    · obtain ⟨ks, l, d, e2, e3, kd⟩ := D.great (by omega)
      have kl : kept.length = cap := by rw [e3, List.length_append, kd.len]; simp; omega
      obtain ⟨ls, e, ld⟩ := aftR_great k kpw (Int.le_refl _) (by omega)
      have lsub : ∀ u ∈ ls, u ∈ kept := fun u hu => (ld.sub u hu).resolve_right (by omega)
      have kn : ∀ u ∈ kept, 0 ≤ u := fun u hu => nn u (D.sub u hu)
      refine ⟨fun z => by simp at z; omega, fun _ => ⟨ls, v, some, rfl, e, ld.len, ld.pw, fun u hu => D.sub u (lsub u hu), fun u hu nu x hx => ?_⟩⟩
      by_cases uk : u ∈ kept
      · exact ld.out u (.inl uk) nu x hx
      · have ud : u ∈ d := by
          rw [e2] at hu
          refine (List.mem_append.mp hu).resolve_right fun z => uk ?_
          rw [e3]
          exact List.mem_append_right _ z
        have uks : u ∉ ks := fun z => uk (by rw [e3]; exact List.mem_append_left _ z)
        have xk := lsub x hx
        rw [e3] at xk
        rcases List.mem_append.mp xk with z | z
        · exact kd.out u ud uks x z
        · have xl : x = l := by simpa using z
          subst xl
          obtain ⟨y, hy, ny⟩ : ∃ y ∈ kept, y ∉ ls := Classical.byContradiction fun hh => by
            have := nodup_len (l := kept) (m := ls) (lt_nodup kpw) fun y hy => Classical.byContradiction fun z => hh ⟨y, hy, z⟩
            rw [kl, ld.len] at this
            omega
          have yk : y ∈ ks := by
            have hy2 := hy
            rw [e3] at hy2
            exact (List.mem_append.mp hy2).resolve_right fun z => ny (by
              have : y = x := by simpa using z
              rw [this]; exact hx)
          exact precB_tr (kn x (lsub x hx)) (kn y hy) (nn u hu) (ld.out y (.inl hy) ny x hx) (kd.out u ud uks y yk)
/-- a whole range -/
theorem due_range {cap : Nat} {some kept : List Int} {lo : Int} (c2 : 2 ≤ cap) (c9 : cap ≤ 9) (l0 : 0 ≤ lo) (pw : some.Pairwise (· < ·)) (nn : ∀ u ∈ some, 0 ≤ u ∧ u < lo) (D : Due cap some kept) : ∀ (n : Nat), Due cap (some ++ rgI lo (lo + n)) (aftR kept lo (lo + n) cap)
  | 0 => by
    have e1 : rgI lo (lo + (0 : Nat)) = [lo] := by
      unfold rgI
      have e : (lo + ((0 : Nat) : Int) - lo + 1).toNat = 1 := by omega
      rw [e]
      simp
    rw [e1]
    have e0 : lo + ((0 : Nat) : Int) = lo := by omega
    rw [e0]
    exact due_push c2 c9 (append_lt pw fun u hu => (nn u hu).2) (fun u hu => (nn u hu).1) l0 D
  | n + 1 => by
    have ih := due_range c2 c9 l0 pw nn D n
    have e0 : lo + ((n + 1 : Nat) : Int) = lo + (n : Int) + 1 := by omega
    rw [e0, rgI_succ (by omega), ← List.append_assoc]
    have k : WOk kept lo cap := ⟨c2, c9, D.len (by omega), l0, fun u hu => by have := nn u (D.sub u hu); omega⟩
    rw [aft_step k (D.pw pw) (by omega)]
    refine due_push c2 c9 ?_ (fun u hu => ?_) (by omega) ih
    · refine append_lt (List.pairwise_append.mpr ⟨pw, rgI_pw _ _, fun a ha b hb => ?_⟩) fun u hu => ?_
      · have := nn a ha
        have := rgI_mem.mp hb
        omega
      · rcases List.mem_append.mp hu with z | z
        · have := nn u z; omega
        · have := rgI_mem.mp z; omega
    · rcases List.mem_append.mp hu with z | z
      · exact (nn u z).1
      · have := rgI_mem.mp z; omega
section
variable {n m : Nat} {G : Hp → Prop} {elt : RX} {σ : St} {H : Hp} {Q : VK} {xs : List V}
/-- as lc_grow; the new item is told without the list that grows -/
theorem lc_grow2 (P : Nat → V → Hp → Prop) (mono : ∀ i y H1 H2, Ex H1 H2 → P i y H1 → P i y H2) (hn : xs.length < 100000) (hG : ∀ H', Ex H H' → G H')
    (turn : ∀ (i : Nat) x d acc H' (R : VK), xs[i]? = some x → Ex H H' → H' d = none → (∀ y H5, Ex (upd H' d (.lst acc)) H5 → P i y (del H5 d) → R y H5) → elt (put (wipe σ [m]) m x) (upd H' d (.lst acc)) R noW)
    (done : ∀ ys q H', Ex H H' → ys.length = xs.length → (∀ i y, ys[i]? = some y → P i y H') → H' q = none → Q (.ref q) (upd H' q (.lst ys))) : LcB xs.length G (yAt xs) (gName m) tY elt [m] σ H Q :=
  lcB (fun i acc H' => Ex H H' ∧ acc.length = i ∧ ∀ k y, acc[k]? = some y → P k y H') ⟨Ex.refl _, rfl, fun _ _ z => by simp at z⟩ (fun i acc H' hi p => ⟨hG _ p.1, by have := p.2.1; omega⟩) (fun i acc H' d hi p nd => by
    obtain ⟨x1, hl, hp⟩ := p
    intro x hx
    refine ⟨wipe_put, fun _ => turn i x d _ _ _ hx x1 nd fun y H5 x5 h5 => ?_, fun z => nomatch z⟩
    have e5 : H5 d = some (.lst acc) := x5 _ _ upd_same
    have x6 : Ex H' (del H5 d) := fun b o e => by
      have nb : b ≠ d := ne_of_none e nd
      rw [del_ne nb]
      exact x5 _ _ (by rw [upd_ne nb]; exact e)
    refine ⟨del H5 d, del_same, fun b o e => ?_, x1.trans x6, by simp [hl], fun k y' hk => ?_⟩
    · by_cases z : b = d
      · subst z; rw [upd_same] at e; cases e; exact e5
      · rw [upd_ne z, del_ne z] at e; exact e
    by_cases hk2 : k < acc.length
    · exact mono _ _ _ _ x6 (hp k y' (by rwa [List.getElem?_append_left hk2] at hk))
    · rw [List.getElem?_append_right (by omega)] at hk
      have : k - acc.length = 0 := by
        cases e : k - acc.length with
        | zero => rfl
        | succ j => rw [e] at hk; simp at hk
      have e : k = i := by omega
      subst e
      rw [this] at hk
      simp at hk
      subst hk
      exact h5) fun acc H' q p nq => by
    obtain ⟨x1, hl, hp⟩ := p
    exact done acc q H' x1 hl hp nq
end
/-! ## for over a range of great ints -/
section
variable {X : Cx} {j : Nat} {tg a b : Expr} {p pos : Pos} {tr : RA}
end
/-! ## a list times an int; membership of data -/
section
variable {X : Cx} {j : Nat} {a b : Expr} {ta tb : RX} {pos : Pos}
end
/-! ## comprehensions over ints -/
section
variable {n m : Nat} {G : Hp → Prop} {Y : Nat → Hp → VK → Prop} {g : RG} {elt : RX} {vs : List Nat} {σ : St} {H : Hp} {Q : VK} {xs : List V} {lo : Int}
theorem lc_ints0 {ns : List Int} (gx : Int → V) (hn : ns.length < 100000) (hG : G H)
    (item : ∀ (x : Int) d acc (R : VK), x ∈ ns → H d = none → (∀ H5, Ex (upd H d (.lst acc)) H5 → R (gx x) H5) → elt (put (wipe σ [m]) m (.int x)) (upd H d (.lst acc)) R noW)
    (done : ∀ q, H q = none → Q (.ref q) (upd H q (.lst (ns.map gx)))) : LcB (ns.map V.int).length G (yAt (ns.map V.int)) (gName m) tY elt [m] σ H Q := by
  refine lc_at (fun i y => ∃ x, ns[i]? = some x ∧ y = gx x) (by rw [List.length_map]; exact hn) hG (fun i x d acc R hx nd k => ?_) fun ys q hl hy nq => ?_
  · rw [List.getElem?_map] at hx
    obtain ⟨y, hy, rfl⟩ := Option.map_eq_some_iff.mp hx
    exact item y d acc R (List.mem_of_getElem? hy) nd fun H5 x5 => k _ _ x5 ⟨y, hy, rfl⟩
  · have e : ys = ns.map gx := by
      refine List.ext_getElem? fun i => ?_
      rw [List.getElem?_map]
      cases h : ys[i]? with
      | none =>
        have := List.getElem?_eq_none_iff.mp h
        rw [List.length_map] at hl
        rw [List.getElem?_eq_none (by omega)]
        rfl
      | some y =>
        obtain ⟨x, hx, rfl⟩ := hy i y h
        rw [hx]
        rfl
    rw [e]
    exact done q nq
end
/-! ## keys of the laws own order -/
theorem made_ex {H H1 : Hp} {x dx : Addr} {o o' : HO} (nx : H x = none) (ndx : H dx = none) (ne : dx ≠ x) (f : Fr [x] (upd (upd H dx o) x o') H1) : Ex H H1 ∧ Ex H (upd (upd H dx o) x o') := by
  have x01 : Ex H (upd (upd H dx o) x o') := (Ex.put ndx).trans (Ex.put (by rw [upd_ne ne.symm]; exact nx))
  exact ⟨fun b o e => f b o (by simp; exact ne_of_none e nx) (x01 b o e), x01⟩
/-! ## what the laws' own search for the strongest finds -/
theorem Top.nd {S : Int → Prop} {n : Nat} {f : List Int} (t : Top S n f) (nn : ∀ u, S u → 0 ≤ u) : f.Nodup :=
  t.pw.imp_of_mem fun {a b} ha hb h e => by
    subst e
    rw [prec_irr (nn a (t.sub a ha))] at h
    cases h
/-- all of S is in d, or preceded by n of d -/
theorem Top.great {S : Int → Prop} {d : List Int} {n : Nat} {f : List Int} (t : Top (fun u => u ∈ d) n f) (nn : ∀ u, S u → 0 ≤ u) (sub : ∀ v ∈ d, S v) (nd : d.Nodup) (cov : ∀ u, S u → u ∈ d ∨ n ≤ (d.filter fun v => precB v u).length) : Top S n f := by
  refine ⟨t.len, t.pw, fun v hv => sub v (t.sub v hv), fun u hu nu => ?_⟩
  by_cases ud : u ∈ d
  · exact t.out u ud nu
  have hn := (cov u hu).resolve_left ud
  have fd : (d.filter fun v => precB v u).Nodup := nd.sublist List.filter_sublist
  have fs : ∀ x ∈ d.filter (fun v => precB v u), x ∈ d ∧ precB x u = true := fun x hx => by
    have := List.mem_filter.mp hx
    exact ⟨this.1, this.2⟩
  have full : f.length = n := by
    by_cases h : ∃ x ∈ d, x ∉ f
    · obtain ⟨x, h1, h2⟩ := h
      exact (t.out x h1 h2).1
    · have all : ∀ x ∈ d, x ∈ f := fun x hx => Classical.byContradiction fun z => h ⟨x, hx, z⟩
      have := nodup_len fd fun x hx => all x (fs x hx).1
      have := t.len
      omega
  refine ⟨full, fun v hv => Classical.byContradiction fun hnv => ?_⟩
  have v0 := nn v (sub v (t.sub v hv))
  have u0 := nn u hu
  have ne : v ≠ u := fun e => ud (e ▸ t.sub v hv)
  have uv : precB u v = true := (prec_tri v0 u0 ne).resolve_left hnv
  have inf : ∀ x ∈ v :: d.filter (fun v => precB v u), x ∈ f := fun x hx => by
    rcases List.mem_cons.mp hx with rfl | hx
    · exact hv
    · obtain ⟨xd, xu⟩ := fs x hx
      refine Classical.byContradiction fun nx => ?_
      have x0 := nn x (sub x xd)
      exact prec_asym x0 v0 (precB_tr x0 u0 v0 xu uv) ((t.out x xd nx).2 v hv)
  have := nodup_len (List.nodup_cons.mpr ⟨fun z => hnv (fs v z).2, fd⟩) inf
  rw [List.length_cons] at this
  omega
structure SgInv (lo hi : Int) (n k : Nat) (f : List Int) : Prop where
  nd : f.Nodup
  sub : ∀ v ∈ f, (lo ≤ v ∧ v ≤ hi ∧ 0 ≤ v) ∧ (v = 0 ∨ 2 ^ k ≤ lowb v)
  cov : ∀ u, lo ≤ u → u ≤ hi → 0 ≤ u → (u = 0 ∨ 2 ^ k ≤ lowb u) → u ∈ f ∨ n ≤ (f.filter fun v => precB v u).length
/-! ## queues of a law: apart from each other, their states -/
structure Q1 (C : Addr) (H0 H : Hp) (x kl cl : Addr) (q : Qst) : Prop where
  at_ : QAt C H x kl cl q
  xx : Ex H0 H
  n1 : H0 x = none
  c1 : H0 cl = none
  e1 : kl ≠ cl
structure Ap (x kl cl x' kl' cl' : Addr) : Prop where
  ne : x ≠ x'
  e3 : kl ≠ cl'
  e4 : kl' ≠ cl
  e5 : cl ≠ cl'
theorem Ap.swap {x kl cl x' kl' cl' : Addr} (a : Ap x kl cl x' kl' cl') : Ap x' kl' cl' x kl cl := ⟨a.ne.symm, a.e4, a.e3, a.e5.symm⟩
theorem QAt.cl_some {C : Addr} {H : Hp} {a kl cl : Addr} {q : Qst} (A : QAt C H a kl cl q) : ∃ o, H cl = some o := by
  obtain ⟨_, _, cs, l, _⟩ := A
  exact ⟨_, l⟩
theorem Q1.ex0 {C : Addr} {H0 H H' : Hp} {x kl cl : Addr} {q : Qst} (a : Q1 C H0 H x kl cl q) (f : Fr [x, cl] H H') : Ex H0 H' := fun b o e => f b o (by
  simp
  exact ⟨ne_of_none e a.n1, ne_of_none e a.c1⟩) (a.xx b o e)
theorem Q1.op {C : Addr} {H0 H H' : Hp} {x kl kl2 cl : Addr} {q q2 : Qst} (a : Q1 C H0 H x kl cl q) (f : Fr [x, cl] H H') (hk : H kl2 = none) (A : QAt C H' x kl2 cl q2) : Q1 C H0 H' x kl2 cl q2 := by
  obtain ⟨o, s⟩ := a.at_.cl_some
  exact ⟨A, a.ex0 f, a.n1, a.c1, (ne_of_none s hk).symm⟩
theorem Q1.ex {C : Addr} {H0 H H' : Hp} {x kl cl : Addr} {q : Qst} (a : Q1 C H0 H x kl cl q) (e : Ex H H') : Q1 C H0 H' x kl cl q := ⟨a.at_.ex e, a.xx.trans e, a.n1, a.c1, a.e1⟩
theorem Q1.other {C : Addr} {H0 H H' : Hp} {x kl cl x' kl' cl' : Addr} {q r : Qst} (a : Q1 C H0 H x kl cl q) (b : Q1 C H0 H x' kl' cl' r) (p : Ap x kl cl x' kl' cl') (f : Fr [x, cl] H H') : Q1 C H0 H' x' kl' cl' r := by
  refine ⟨?_, a.ex0 f, b.n1, b.c1, b.e1⟩
  obtain ⟨⟨dx, i1⟩, k1, cs, l1, _⟩ := a.at_
  obtain ⟨⟨dy, i2⟩, k2, ds, l2, d2⟩ := id b.at_
  refine b.at_.fr f ?_ ?_ ?_ fun z hz xs e => ?_
  · simp
    exact ⟨p.ne.symm, ne_kind i2 l1 (fun e => by cases e)⟩
  · simp
    exact ⟨ne_kind k2 i1 (fun e => by cases e), p.e4⟩
  · simp
    exact ⟨ne_kind l2 i1 (fun e => by cases e), p.e5.symm⟩
  · simp at hz
    rcases hz with rfl | rfl
    · rw [i1] at e; cases e
    · rw [l1] at e; cases e
theorem Ap.op {C : Addr} {H H0 : Hp} {x kl kl2 cl x' kl' cl' : Addr} {r : Qst} (p : Ap x kl cl x' kl' cl') (b : Q1 C H0 H x' kl' cl' r) (hk : H kl2 = none) : Ap x kl2 cl x' kl' cl' := by
  obtain ⟨o, s⟩ := b.at_.cl_some
  exact ⟨p.ne, (ne_of_none s hk).symm, p.e4, p.e5⟩
/-- a queue of the law: its state, what must wait -/
structure Lq (cap : Nat) (m bd : Int) (so : List Int) (n : Nat) (q : Qst) : Prop where
  ok : QOk q
  size : q.size = cap
  mark : q.mark = m
  bound : q.bound ≤ bd
  due : Due cap so q.kept
  calls : q.calls.length ≤ n
/-- the versions that may wait -/
structure So (m bd : Int) (so : List Int) : Prop where
  pw : so.Pairwise (· < ·)
  b : ∀ u ∈ so, m < u ∧ u ≤ bd
theorem Lq.arrive {cap : Nat} {m bd lo hi : Int} {so : List Int} {n : Nat} {q : Qst} (l : Lq cap m bd so n q) (s : So m bd so) (m0 : -1 ≤ m) (hm : m ≤ bd) (hlo : bd < lo) (hl : lo ≤ hi) (hb : Big hi) (hn : n < 100000) : Lq cap m hi (so ++ rgI lo hi) (n + 1) (q.arrive lo hi) := by
  have b1 := l.bound
  have e1 := l.mark
  refine ⟨l.ok.arrive (by omega) hl hb (by have := l.calls; omega), l.size, l.mark, Int.le_refl _, ?_, by show (q.calls ++ [_]).length ≤ n + 1; have := l.calls; simp; omega⟩
  have em : mx lo (q.mark + 1) = lo := by
    unfold mx
    rw [if_neg (by omega)]
  show Due cap _ (aftA q.kept (mx lo (q.mark + 1)) hi q.size)
  rw [em]
  unfold aftA
  rw [if_neg (by omega), l.size]
  obtain ⟨k, hk⟩ : ∃ k : Nat, hi = lo + k := ⟨(hi - lo).toNat, by omega⟩
  subst hk
  have c2 := l.ok.c2
  have c9 := l.ok.c9
  rw [l.size] at c2 c9
  exact due_range c2 c9 (by omega) s.pw (fun u hu => by have := s.b u hu; omega) l.due k
theorem So.arrive {m bd lo hi : Int} {so : List Int} (s : So m bd so) (hm : m ≤ bd) (hlo : bd < lo) (hl : lo ≤ hi + 1) : So m hi (so ++ rgI lo hi) := by
  refine ⟨List.pairwise_append.mpr ⟨s.pw, rgI_pw _ _, fun a ha b hb => ?_⟩, fun u hu => ?_⟩
  · have := s.b a ha
    have := rgI_mem.mp hb
    omega
  · rcases List.mem_append.mp hu with z | z
    · have := s.b u z; omega
    · have := rgI_mem.mp z; omega
theorem Fr.back {C : Addr} {H H1 : Hp} {x kl cl b : Addr} {q : Qst} (f : Fr [x, cl] H H1) (A : QAt C H1 x kl cl q) (n : H1 b = none) : H b = none := by
  obtain ⟨dx, i⟩ := A.ins
  obtain ⟨o1, i1⟩ := A.cl_some
  cases e : H b with
  | none => rfl
  | some o =>
    have := f b o (by
      simp
      exact ⟨(ne_of_none i n).symm, (ne_of_none i1 n).symm⟩) e
    rw [n] at this
    cases this
theorem at_lst {C : Addr} {H0 H H' : Hp} {x kl cl b : Addr} {q : Qst} {ys : List V} (a : Q1 C H0 H x kl cl q) (f : Fr [x, cl] H H') (h : H b = some (.lst ys)) (n : b ≠ cl) : H' b = some (.lst ys) := by
  obtain ⟨dx, i⟩ := a.at_.ins
  exact f b _ (by
    simp
    exact ⟨ne_kind h i (fun e => by cases e), n⟩) h
structure Same (a b : Qst) : Prop where
  size : a.size = b.size
  first : a.first = b.first
  mark : a.mark = b.mark
  latest : a.latest = b.latest
  kept : a.kept = b.kept
  most : a.most = b.most
theorem Same.eqv {a b : Qst} (s : Same a b) : a.eqv b = true := by
  unfold Qst.eqv
  exact decide_eq_true ⟨s.size, s.first, s.mark, s.latest, s.kept⟩
theorem Same.lag {a b : Qst} (s : Same a b) : a.lag = b.lag := by
  unfold Qst.lag
  rw [s.latest, s.mark]
theorem optD_fits {o : Option Int} (h : ∀ i, o = some i → -1 ≤ i ∧ Big i) : fits (optD o) := by
  cases o with
  | none => simp [optD, fits]
  | some i =>
    have := h i rfl
    unfold Big at this
    simp only [optD, fits]
    omega
theorem QOk.latest {q : Qst} (ok : QOk q) : ∀ i, q.latest = some i → -1 ≤ i ∧ Big i := fun i e => by
  have b0 := ok.b0
  have b1 := ok.b1
  have f0 := ok.f0
  have eb : q.bound = i := by unfold Qst.bound; rw [e]
  rw [eb] at b0 b1
  exact ⟨by omega, b1⟩
theorem QOk.kfits {q : Qst} (ok : QOk q) : fitsAll (q.kept.map PyData.int) := fits_ints _ fun x hx => by
  have := ok.kb x hx
  have b1 := ok.b1
  unfold Big at b1
  omega
theorem QOk.lag {q : Qst} (ok : QOk q) : 0 ≤ q.lag ∧ q.lag < 2000000000000000000000000000000000000000000000000000000000000000 := by
  have m0 := ok.m0
  have b1 := ok.b1
  unfold Big at b1
  unfold Qst.lag
  cases h : q.latest with
  | none => exact ⟨Int.le_refl _, show (0 : Int) < _ by decide⟩
  | some l =>
    have := (ok.latest l h).2
    unfold Big at this
    show 0 ≤ mx 0 (l - q.mark) ∧ mx 0 (l - q.mark) < _
    unfold mx
    split <;> omega
/-! ## a queue as a law follows it, whatever its mark -/
structure Lx (C : Addr) (H0 H : Hp) (x kl cl sa : Addr) (q : Qst) (cap : Nat) (bg : Int) (n : Nat) : Prop where
  a : Q1 C H0 H x kl cl q
  sa_ : H sa = some (.lst (q.kept.map V.int))
  ne : sa ≠ cl
  ok : QOk q
  size : q.size = cap
  first : q.first = bg
  pw : q.kept.Pairwise (· < ·)
  km : ∀ v ∈ q.kept, q.mark < v
  m0 : 0 ≤ q.most
  m1 : q.most ≤ q.bound + 1
  calls : q.calls.length ≤ n
section
variable {C : Addr} {H0 H H' : Hp} {x kl kl2 cl sa sb : Addr} {q : Qst} {cap n n2 : Nat} {bg : Int}
theorem Lx.ex (l : Lx C H0 H x kl cl sa q cap bg n) (e : Ex H H') : Lx C H0 H' x kl cl sa q cap bg n := ⟨l.a.ex e, e _ _ l.sa_, l.ne, l.ok, l.size, l.first, l.pw, l.km, l.m0, l.m1, l.calls⟩
theorem Lx.most (l : Lx C H0 H x kl cl sa q cap bg n) : 0 ≤ q.most ∧ q.most < 2000000000000000000000000000000000000000000000000000000000000000 := by
  have b1 := l.ok.b1
  have := l.m0
  have := l.m1
  unfold Big at b1
  omega
theorem Lx.wok (l : Lx C H0 H x kl cl sa q cap bg n) {lo hi : Int} (h : q.bound < lo) : WOk q.kept (mx lo (q.mark + 1)) cap ∧ (q.arrive lo hi).kept = aftA q.kept (mx lo (q.mark + 1)) hi cap := by
  have w := l.ok.wok h
  have e := l.size
  rw [e] at w
  exact ⟨w, by show aftA q.kept (mx lo (q.mark + 1)) hi q.size = _; rw [e]⟩
theorem aftA_pw {w : List Int} {lo hi : Int} {cap : Nat} (k : WOk w lo cap) (sw : w.Pairwise (· < ·)) : (aftA w lo hi cap).Pairwise (· < ·) := by
  unfold aftA
  split
  · exact sw
  · exact aftR_pw k sw (by omega)
theorem Lx.arrive (l : Lx C H0 H x kl cl sa q cap bg n) {lo hi : Int} (h : q.bound < lo) (hl : lo ≤ hi) (hb : Big hi) (hn : n < 90000) (a : Q1 C H0 H' x kl2 cl (q.arrive lo hi)) (hs : H' sb = some (.lst ((q.arrive lo hi).kept.map V.int))) (ne : sb ≠ cl) : Lx C H0 H' x kl2 cl sb (q.arrive lo hi) cap bg (n + 1) := by
  obtain ⟨w, e1⟩ := l.wok (hi := hi) h
  have b0 := l.ok.b0
  have f0 := l.ok.f0
  have mk0 := l.ok.m0
  have m0 := l.m0
  have m1 := l.m1
  refine ⟨a, hs, ne, l.ok.arrive h hl hb (by have := l.calls; omega), l.size, l.first, ?_, fun v hv => ?_, ?_, ?_, by show (q.calls ++ [_]).length ≤ n + 1; have := l.calls; simp; omega⟩
  · rw [e1]
    exact aftA_pw w l.pw
  · rw [e1] at hv
    show q.mark < v
    unfold aftA at hv
    split at hv
    · exact l.km v hv
    · rcases aftR_cand w l.pw (by omega) v hv with z | z
      · exact l.km v z
      · have := (mx_le lo (q.mark + 1)).2
        omega
  · show 0 ≤ mx q.most _
    have := (mx_le q.most (mx 0 (hi - q.mark))).1
    omega
  · show mx q.most (mx 0 (hi - q.mark)) ≤ hi + 1
    unfold mx
    split <;> (try split) <;> omega
theorem Lx.advance (l : Lx C H0 H x kl cl sa q cap bg n) {mk : Int} (h0 : 0 ≤ mk) (hb : Big mk) (hn : n < 90000) (a : Q1 C H0 H' x kl2 cl (q.advance mk)) (hs : H' sb = some (.lst ((q.advance mk).kept.map V.int))) (ne : sb ≠ cl) : Lx C H0 H' x kl2 cl sb (q.advance mk) cap bg (n + 1) :=
  ⟨a, hs, ne, l.ok.advance h0 hb (by have := l.calls; omega), l.size, l.first, l.pw.sublist List.filter_sublist, fun v hv => of_decide_eq_true (List.mem_filter.mp hv).2, l.m0, l.m1, by show (q.calls ++ [_]).length ≤ n + 1; have := l.calls; simp; omega⟩
end
/-! ## the drops, as a law finds them -/
def lawDue (cap : Nat) (v : Int) : List Arr → Option Drop
  | [] => none
  | r :: rs => if (holdsA r v && !decide (v ∈ aftA r.w r.low r.high cap)) = true then some (dropA r cap v) else lawDue cap v rs
def arrs (size : Nat) : Int → List Int → List Call → List Arr
  | _, _, [] => []
  | _, w, (x, none) :: r => arrs size x (w.filter fun o => decide (o > x)) r
  | m, w, (l, some h) :: r => (if mx l (m + 1) ≤ h then [⟨m, w, mx l (m + 1), h⟩] else []) ++ arrs size m (aftA w (mx l (m + 1)) h size) r
def endS (size : Nat) : Int → List Int → List Call → Int × List Int
  | m, w, [] => (m, w)
  | _, w, (x, none) :: r => endS size x (w.filter fun o => decide (o > x)) r
  | m, w, (l, some h) :: r => endS size m (aftA w (mx l (m + 1)) h size) r
theorem arrs_app (size : Nat) : ∀ (cs ds : List Call) (m : Int) (w : List Int), arrs size m w (cs ++ ds) = arrs size m w cs ++ arrs size (endS size m w cs).1 (endS size m w cs).2 ds
  | [], ds, m, w => rfl
  | (x, none) :: r, ds, m, w => arrs_app size r ds _ _
  | (l, some h) :: r, ds, m, w => by
    show _ ++ arrs size m _ (r ++ ds) = (_ ++ arrs size m _ r) ++ _
    rw [arrs_app size r ds, List.append_assoc]
    rfl
theorem endS_app (size : Nat) : ∀ (cs ds : List Call) (m : Int) (w : List Int), endS size m w (cs ++ ds) = endS size (endS size m w cs).1 (endS size m w cs).2 ds
  | [], ds, m, w => rfl
  | (x, none) :: r, ds, m, w => endS_app size r ds _ _
  | (l, some h) :: r, ds, m, w => endS_app size r ds _ _
/-- the state is what its calls make of it -/
structure Sim (q : Qst) : Prop where
  e : endS q.size (q.first - 1) [] q.calls = (q.mark, q.kept)
def Qst.arrs (q : Qst) : List Arr := L2.G.arrs q.size (q.first - 1) [] q.calls
theorem Sim.new (cap : Nat) (s : Int) : Sim (Qst.new cap s) := ⟨rfl⟩
theorem Sim.arrive {q : Qst} (s : Sim q) (lo hi : Int) : Sim (q.arrive lo hi) := ⟨by
  show endS q.size (q.first - 1) [] (q.calls ++ [(lo, some hi)]) = _
  rw [endS_app, s.e]
  rfl⟩
theorem Sim.advance {q : Qst} (s : Sim q) (v : Int) : Sim (q.advance v) := ⟨by
  show endS q.size (q.first - 1) [] (q.calls ++ [(v, none)]) = _
  rw [endS_app, s.e]
  rfl⟩
theorem Sim.arrs_arrive {q : Qst} (s : Sim q) (lo hi : Int) : (q.arrive lo hi).arrs = q.arrs ++ (if mx lo (q.mark + 1) ≤ hi then [⟨q.mark, q.kept, mx lo (q.mark + 1), hi⟩] else []) := by
  show L2.G.arrs q.size (q.first - 1) [] (q.calls ++ [(lo, some hi)]) = _
  rw [arrs_app, s.e]
  show q.arrs ++ (_ ++ []) = _
  rw [List.append_nil]
theorem Sim.arrs_advance {q : Qst} (s : Sim q) (v : Int) : (q.advance v).arrs = q.arrs := by
  show L2.G.arrs q.size (q.first - 1) [] (q.calls ++ [(v, none)]) = _
  rw [arrs_app, s.e]
  exact List.append_nil _
/-! ## is, is not of bools -/
section
variable {X : Cx}
end
theorem Q1.oth {C : Addr} {H0 H : Hp} {x kl cl ca : Addr} {q : Qst} {xs ys : List V} (a : Q1 C H0 H x kl cl q) (n0 : H0 ca = none) (hc : H ca = some (.lst xs)) (n1 : ca ≠ kl) (n2 : ca ≠ cl) : Q1 C H0 (upd H ca (.lst ys)) x kl cl q := by
  obtain ⟨dx, i⟩ := a.at_.ins
  have f : Fr [ca] H (upd H ca (.lst ys)) := (Fr.of_ex (Ex.refl _)).upd (.inl (by simp))
  refine ⟨a.at_.fr f (by simpa using ne_kind i hc (fun e => by cases e)) (by simpa using n1.symm) (by simpa using n2.symm) (fun z hz xs' g => ?_), fun b o e => ?_, a.n1, a.c1, a.e1⟩
  · simp at hz
    subst hz
    rw [hc] at g
    cases g
  · rw [upd_ne (ne_of_none e n0)]
    exact a.xx b o e
/-! ## f-strings of data -/
/-- str(x) of data -/
def toldS : PyData → Str
  | .str x => x
  | d => d.shown
section
variable {X : Cx} {j : Nat} {e : Expr} {t : RX} {pos : Pos} {W : WX} {k : Nat}
theorem fmt_data {pins : List (Addr × Obj)} {s : Shared} {σ : St} {H : Hp} {v : V} {u : Value} {d : PyData} {Q : VK} (c : Cn X W k) (I : Inv X pins σ H s) (hd : Dp X.K H v d) (ru : RelV v u) (ok : RpOk d) (hl : (toldS d).length ≤ sizeLine) (q : Q (.str (toldS d)) H) :
    wpAny (model X.prog X.w) X.A (formatField u Str.empty) (EP X pins σ Q) X.xe s := by
  obtain ⟨as, rd⟩ := Dp.reads I d v u hd ru
  have z := fits.short d ok.f
  have len : d.shown.length ≤ sizeLine := Nat.le_trans ok.len (by decide)
  have room : X.A.units + (d.depth + 2) < cLine := by
    have := c.units
    have := ok.p
    omega
  have fin : ∀ y : Str, toldS d = y → ∀ h' t tk, (∀ b o, s.heap.get? b = some o → h'.get? b = some o) → EP X pins σ Q (.str y t) { s with heap := h', toks := tk } := fun y ey h' t tk hk =>
    ⟨.str y, H, I.kept (fun b o e => hk b o e), ⟨t, rfl⟩, by rw [← ey]; exact q⟩
  cases rd with
  | none => exact wpAny_formatField_none (fin _ rfl s.heap _ _ fun _ _ e => e)
  | bool b => exact wpAny_formatField_bool (fin _ (by cases b <;> rfl) s.heap _ _ fun _ _ e => e)
  | int i t => exact wpAny_formatField_int (by simpa [PyData.showable] using z.2.1) (fin _ rfl s.heap _ _ fun _ _ e => e)
  | str x t => exact wpAny_formatField_str (fin _ rfl s.heap _ _ fun _ _ e => e) (fin _ rfl s.heap _ _ fun _ _ e => e) hl
  | list h1 h2 h3 h4 => exact formatField_of_reads (.list h1 h2 h3 h4) z.2.1 (PyData.noDict_hsm z.2.2) c.gd room (fun _ _ e => e) (fin _ rfl) len
  | tuple h1 h2 h3 h4 => exact formatField_of_reads (.tuple h1 h2 h3 h4) z.2.1 (PyData.noDict_hsm z.2.2) c.gd room (fun _ _ e => e) (fin _ rfl) len
  | dict h1 h2 h3 h4 h5 => cases hd
/-- {x} of data -/
def rFmtD (K : PySem.W.Frag) (t : RX) : RX := fun σ H Q W => t σ H (fun v H1 => ∃ d, Dp K H1 v d ∧ RpOk d ∧ (toldS d).length ≤ sizeLine ∧ Q (.str (toldS d)) H1) W
theorem s_fmtD (h : SX X j t e) : SX X j (rFmtD X.K t) (.FormattedValue e (-1) none pos) := ⟨fun {W} c σ H Q q H1 x pins s I => by
  refine wpAny_FormattedValue_plain (thn (h.run c q H1 x pins s I) fun v s1 ⟨v', H2, I2, r, H3, x3, d, hd, ok, hl, q⟩ => ?_)
  exact fmt_data c I2 (Dp.ex x3 hd) r ok hl ⟨H3, x3, q⟩⟩
/-- str(x) of data -/
def cStr (K : PySem.W.Frag) : RC := c1 fun x H Q => ∃ d, Dp K H x d ∧ RpOk d ∧ Q (.str (toldS d)) H
theorem str_data {pins : List (Addr × Obj)} {s : Shared} {σ : St} {H : Hp} {v : V} {u : Value} {d : PyData} {Q : VK} (c : Cn X W k) (I : Inv X pins σ H s) (hd : Dp X.K H v d) (ru : RelV v u) (ok : RpOk d) (q : Q (.str (toldS d)) H) :
    wpAny (model X.prog X.w) X.A (call (.type "str") [u]) (EP X pins σ Q) X.xe s := by
  obtain ⟨as, rd⟩ := Dp.reads I d v u hd ru
  have z := fits.short d ok.f
  have len : d.shown.length ≤ sizeLine := Nat.le_trans ok.len (by decide)
  have room : X.A.units + (d.depth + 3) < cLine := by
    have := c.units
    have := ok.p
    omega
  have fin : ∀ y : Str, toldS d = y → ∀ h' t tk, (∀ b o, s.heap.get? b = some o → h'.get? b = some o) → EP X pins σ Q (.str y t) { s with heap := h', toks := tk } := fun y ey h' t tk hk =>
    ⟨.str y, H, I.kept (fun b o e => hk b o e), ⟨t, rfl⟩, by rw [← ey]; exact q⟩
  cases rd with
  | none => exact PySem.P.str_of_none (fin _ rfl s.heap _ _ fun _ _ e => e)
  | bool b => exact PySem.P.str_of_bool (fin _ (by cases b <;> rfl) s.heap _ _ fun _ _ e => e)
  | int i t => exact PySem.P.str_of_int (by simpa [PyData.showable] using z.2.1) (fin _ rfl s.heap _ _ fun _ _ e => e)
  | str x t => exact PySem.P.str_of_str (fin _ rfl s.heap _ _ fun _ _ e => e)
  | list h1 h2 h3 h4 => exact str_of_reads (.list h1 h2 h3 h4) z.2.1 (PyData.noDict_hsm z.2.2) c.gd room (fun _ _ e => e) (fin _ rfl) len
  | tuple h1 h2 h3 h4 => exact str_of_reads (.tuple h1 h2 h3 h4) z.2.1 (PyData.noDict_hsm z.2.2) c.gd room (fun _ _ e => e) (fin _ rfl) len
  | dict h1 h2 h3 h4 h5 => cases hd
theorem s_strC (hm : X.mg "str" = none) {tr : RA} {p : Pos} (ha : SA X j tr [e]) (hg : Gl X "str" := by rfl) (he : starEach [e] X.env = (false, eval e X.env) :: starEach [] X.env := by rfl) (hpl : (backTo pos (starEach [] X.env)).any (·.1) = false := by rfl) : SX X j (rB (cStr X.K) tr) (.Call (.Name "str" p) [e] [] pos) :=
  ⟨fun c _ _ _ q => we_callTy hm PyProof.Rows.boot_str ((ha.run c q).mono fun vs H q => by
    cases vs with
    | nil => exact q.elim
    | cons x r => cases r with
      | nil =>
        obtain ⟨d, h, ok, q⟩ := q
        intro H1 x1 pins s σ us I rv
        obtain ⟨u, rfl, ru⟩ := rv.one
        exact str_data c I (Dp.ex x1 h) ru ok ⟨_, x1, q⟩
      | cons _ _ => exact q.elim) hg (by decide) (by decide) he hpl⟩
end
/-! ## texts that can be laid -/
theorem ok_app {a b : Str} (h1 : PyData.strOk a = true) (h2 : PyData.strOk b = true) : PyData.strOk (a ++ b) = true := by
  unfold PyData.strOk at *
  show (a.cps ++ b.cps).all _ = true
  rw [Array.all_append, h1, h2]
  rfl
theorem ok_str (s : String) : PyData.strOk (Str.ofString s) = true := by
  unfold PyData.strOk Str.ofString
  rw [cpsOfBytes_string, Array.all_eq_true_iff_forall_mem]
  intro c hc
  simp only [List.mem_toArray, List.mem_map] at hc
  obtain ⟨ch, _, rfl⟩ := hc
  have h := ch.valid
  simp only [UInt32.isValidChar, Nat.isValidChar] at h
  have e : ch.toNat = ch.val.toNat := rfl
  rw [decide_eq_true_eq, e]
  omega
theorem ok_from : ∀ (ts : List Str) (k : Nat) (acc : Str), PyData.strOk acc = true → (∀ t ∈ ts, PyData.strOk t = true) → PyData.strOk (textFrom k acc ts) = true
  | [], k, acc, h, _ => h
  | t :: r, k, acc, h, ht => by
    refine ok_from r (k + 1) (acc ++ (if k > 0 then ", " else "" : String) ++ t) (ok_app (ok_app h (ok_str _)) (ht t (List.mem_cons_self ..))) fun t' h' => ht t' (List.mem_cons_of_mem _ h')
theorem ok_ints (xs : List Int) : PyData.strOk (PyData.shown (.list (xs.map PyData.int))) = true := by
  simp only [PyData.shown]
  unfold listText
  refine ok_app (ok_from _ _ _ (ok_str _) fun t ht => ?_) (ok_str _)
  induction xs with
  | nil => simp [PyData.shownAll] at ht
  | cons x xs ih =>
    simp only [List.map_cons, PyData.shownAll, List.mem_cons] at ht
    rcases ht with rfl | ht
    · exact ok_str _
    · exact ih ht
/-! ## repr of a queue -/
def numT (q : Qst) : Str := ((((((((Str.empty ++ "capacity=") ++ Str.ofString (toString (q.size : Int))) ++ ", start=") ++ Str.ofString (toString q.first)) ++ ", passed=") ++ Str.ofString (toString q.mark)) ++ ", newest=") ++ toldS (optD q.latest))
def Qst.text (q : Qst) : Str := (((((Str.empty ++ "Queue(") ++ numT q) ++ ", waiting=") ++ PyData.shown (.list (q.kept.map PyData.int))) ++ ")")
theorem ok_opt (o : Option Int) : PyData.strOk (toldS (optD o)) = true := by cases o <;> exact ok_str _
theorem ok_none : PyData.strOk Str.empty = true := by decide +kernel
theorem num_ok (q : Qst) : PyData.strOk (numT q) = true := ok_app (ok_app (ok_app (ok_app (ok_app (ok_app (ok_app (ok_app ok_none (ok_str _)) (ok_str _)) (ok_str _)) (ok_str _)) (ok_str _)) (ok_str _)) (ok_str _)) (ok_opt _)
theorem Qst.text_ok (q : Qst) : PyData.strOk q.text = true := ok_app (ok_app (ok_app (ok_app (ok_app ok_none (ok_str _)) (num_ok q)) (ok_str _)) (ok_ints _)) (ok_str _)
theorem ofs_len {i : Int} (h : i.natAbs < 10 ^ 120) : (Str.ofString (toString i)).length ≤ 130 := int_shown h
theorem lt_app {a b : Str} {n m : Nat} (h1 : a.length ≤ n) (h2 : b.length ≤ m) : (a ++ b).length ≤ n + m := by
  rw [strLen_append]
  omega
theorem opt_len {o : Option Int} (h : ∀ i, o = some i → -1 ≤ i ∧ Big i) : (toldS (optD o)).length ≤ 130 := by
  cases o with
  | none => decide +kernel
  | some i =>
    have := h i rfl
    unfold Big at this
    exact ofs_len (by omega)
theorem kept_len {q : Qst} (ok : QOk q) : (PyData.shown (.list (q.kept.map PyData.int))).length ≤ 2640130 := by
  have kl := ok.klen
  have c9 := ok.c9
  refine RpOk.len (.mk ?_ ?_ ?_)
  · simp only [fits]
    exact ok.kfits
  · simp [PyData.bulk, bulk_ints]
    omega
  · simp [PyData.depth, depth_ints]
theorem kept_rp {q : Qst} (ok : QOk q) : RpOk (.list (q.kept.map PyData.int)) := by
  have kl := ok.klen
  have c9 := ok.c9
  refine .mk ?_ ?_ ?_
  · simp only [fits]
    exact ok.kfits
  · simp [PyData.bulk, bulk_ints]
    omega
  · simp [PyData.depth, depth_ints]
theorem opt_rp {o : Option Int} (h : ∀ i, o = some i → -1 ≤ i ∧ Big i) : RpOk (optD o) := by
  refine .mk (optD_fits h) ?_ ?_ <;> cases o <;> simp [optD, PyData.bulk, PyData.depth]
/-! ## a queue by itself -/
structure Ly (C : Addr) (H0 H : Hp) (x kl cl : Addr) (q : Qst) (B : Int) (n : Nat) : Prop where
  a : Q1 C H0 H x kl cl q
  ok : QOk q
  pw : q.kept.Pairwise (· < ·)
  km : ∀ v ∈ q.kept, q.mark < v
  m0 : 0 ≤ q.most
  m1 : q.most ≤ q.bound + 1
  b1 : q.bound ≤ B
  b2 : q.mark ≤ B
  calls : q.calls.length ≤ n
  s : Sim q
section
variable {C : Addr} {H0 H H' : Hp} {x kl kl2 cl : Addr} {q : Qst} {n n2 : Nat} {B B2 : Int}
theorem Ly.ex (l : Ly C H0 H x kl cl q B n) (e : Ex H H') : Ly C H0 H' x kl cl q B n := ⟨l.a.ex e, l.ok, l.pw, l.km, l.m0, l.m1, l.b1, l.b2, l.calls, l.s⟩
theorem Ly.most (l : Ly C H0 H x kl cl q B n) : 0 ≤ q.most ∧ q.most < 2000000000000000000000000000000000000000000000000000000000000000 := by
  have b1 := l.ok.b1
  have := l.m0
  have := l.m1
  unfold Big at b1
  omega
theorem Ly.arrive (l : Ly C H0 H x kl cl q B n) {lo hi : Int} (h : q.bound < lo) (hl : lo ≤ hi) (hb : Big hi) (hB : B ≤ B2) (hB2 : hi ≤ B2) (hn : n < 90000) (a : Q1 C H0 H' x kl2 cl (q.arrive lo hi)) : Ly C H0 H' x kl2 cl (q.arrive lo hi) B2 (n + 1) := by
  have w := l.ok.wok h
  have e1 : (q.arrive lo hi).kept = aftA q.kept (mx lo (q.mark + 1)) hi q.size := rfl
  have b0 := l.ok.b0
  have f0 := l.ok.f0
  have mk0 := l.ok.m0
  have m0 := l.m0
  have m1 := l.m1
  refine ⟨a, l.ok.arrive h hl hb (by have := l.calls; omega), ?_, fun v hv => ?_, ?_, ?_, hB2, Int.le_trans l.b2 hB, by show (q.calls ++ [_]).length ≤ n + 1; have := l.calls; simp; omega, l.s.arrive lo hi⟩
  · rw [e1]
    exact aftA_pw w l.pw
  · rw [e1] at hv
    show q.mark < v
    unfold aftA at hv
    split at hv
    · exact l.km v hv
    · rcases aftR_cand w l.pw (by omega) v hv with z | z
      · exact l.km v z
      · have := (mx_le lo (q.mark + 1)).2
        omega
  · show 0 ≤ mx q.most _
    have := (mx_le q.most (mx 0 (hi - q.mark))).1
    omega
  · show mx q.most (mx 0 (hi - q.mark)) ≤ hi + 1
    unfold mx
    split <;> (try split) <;> omega
theorem Ly.advance (l : Ly C H0 H x kl cl q B n) {mk : Int} (h0 : 0 ≤ mk) (hb : Big mk) (hB : B ≤ B2) (hB2 : mk ≤ B2) (hn : n < 90000) (a : Q1 C H0 H' x kl2 cl (q.advance mk)) : Ly C H0 H' x kl2 cl (q.advance mk) B2 (n + 1) :=
  ⟨a, l.ok.advance h0 hb (by have := l.calls; omega), l.pw.sublist List.filter_sublist, fun v hv => of_decide_eq_true (List.mem_filter.mp hv).2, l.m0, l.m1, Int.le_trans l.b1 hB, hB2, by show (q.calls ++ [_]).length ≤ n + 1; have := l.calls; simp; omega, l.s.advance mk⟩
end
/-! ## one by one -/
/-! ## a comprehension over a range that makes things -/
section
variable {n m : Nat} {elt : RX} {σ : St} {H : Hp} {Q : VK}
theorem lc_growR (P : Nat → V → Hp → Prop) (mono : ∀ i y H1 H2, Ex H1 H2 → P i y H1 → P i y H2) (hn : n < 100000)
    (turn : ∀ (i : Nat) d acc H' (R : VK), i < n → Ex H H' → H' d = none → (∀ y H5, Ex (upd H' d (.lst acc)) H5 → P i y (del H5 d) → R y H5) → elt (put (wipe σ [m]) m (.int i)) (upd H' d (.lst acc)) R noW)
    (done : ∀ ys q H', Ex H H' → ys.length = n → (∀ i y, ys[i]? = some y → P i y H') → H' q = none → Q (.ref q) (upd H' q (.lst ys))) : LcB n (fun _ => True) (fun i H k => k (.int i) H) (gName m) tY elt [m] σ H Q :=
  lcB (fun i acc H' => Ex H H' ∧ acc.length = i ∧ ∀ k y, acc[k]? = some y → P k y H') ⟨Ex.refl _, rfl, fun _ _ z => by simp at z⟩ (fun i acc H' hi p => ⟨trivial, by have := p.2.1; omega⟩) (fun i acc H' d hi p nd => by
    obtain ⟨x1, hl, hp⟩ := p
    refine ⟨wipe_put, fun _ => turn i d _ _ _ hi x1 nd fun y H5 x5 h5 => ?_, fun z => nomatch z⟩
    have e5 : H5 d = some (.lst acc) := x5 _ _ upd_same
    have x6 : Ex H' (del H5 d) := fun b o e => by
      have nb : b ≠ d := ne_of_none e nd
      rw [del_ne nb]
      exact x5 _ _ (by rw [upd_ne nb]; exact e)
    refine ⟨del H5 d, del_same, fun b o e => ?_, x1.trans x6, by simp [hl], fun k y' hk => ?_⟩
    · by_cases z : b = d
      · subst z; rw [upd_same] at e; cases e; exact e5
      · rw [upd_ne z, del_ne z] at e; exact e
    by_cases hk2 : k < acc.length
    · exact mono _ _ _ _ x6 (hp k y' (by rwa [List.getElem?_append_left hk2] at hk))
    · rw [List.getElem?_append_right (by omega)] at hk
      have : k - acc.length = 0 := by
        cases e : k - acc.length with
        | zero => rfl
        | succ j => rw [e] at hk; simp at hk
      have e : k = i := by omega
      subst e
      rw [this] at hk
      simp at hk
      subst hk
      exact h5) fun acc H' q p nq => by
    obtain ⟨x1, hl, hp⟩ := p
    exact done acc q H' x1 hl hp nq
end
/-! ## what drops tell -/
def dropD : Option Drop → PyData
  | none => .none
  | some d => d.data
theorem dropD_lay (o : Option Drop) : PyData.canLay0 (dropD o) = true := by
  cases o with
  | none => rfl
  | some d => simp [dropD, Drop.data, PyData.canLay0, PyData.canLayAll0, lay_ints]
theorem dropD_depth (o : Option Drop) : (dropD o).depth ≤ 2 := by
  cases o with
  | none => simp [dropD, PyData.depth]
  | some d => simp [dropD, Drop.data, PyData.depth, PyData.depthAll, depth_ints]
/-- the data of a drop in the heap -/
theorem drop_dp {K : PySem.W.Frag} {H : Hp} {t r2 : Addr} {d : Drop} (e1 : H t = some (.tup [.int d.1, .int d.2.1, .ref r2])) (e2 : H r2 = some (.tup (d.2.2.map V.int))) : Dp K H (.ref t) d.data := .tup (.of e1) (.cons (.int _) (.cons (.int _) (.cons (.tup (.of e2) (dp_ints _)) .nil)))
/-! ## dicts with keys ints and texts -/
section
variable {X : Cx} {j : Nat} {W : WX} {e f o i : Expr} {σ : St} {H H1 : Hp} {Q : VK} {D : Ends} {pos p pos' apos cpos tpos : Pos} {t to ti tf : RX} {r : RO} {rc : RC} {tr : RA}
inductive SPs (X : Cx) (j : Nat) : List (RX × RX) → List (Option Expr) → List Expr → Prop where
  | nil : SPs X j [] [] []
  | cons {tk tv : RX} {k v : Expr} {trs : List (RX × RX)} {ks : List (Option Expr)} {vs : List Expr} (hk : SX X j tk k) (hv : SX X j tv v) (r : SPs X j trs ks vs) : SPs X j ((tk, tv) :: trs) (some k :: ks) (v :: vs)
end
/-! ## sorted(set(t)), t a tuple of ints; xs.count(k), bools -/
section
variable {X : Cx} {j : Nat} {e : Expr} {es : List Expr} {σ : St} {H H1 : Hp} {Q : VK} {pos p p2 pos2 : Pos} {tr : RA}
/-- xs.count(k), bools -/
def mCntB (K : PySem.W.Frag) : RM := fun x vs H Q => ∃ (l : Addr) (bs : List Bool) (k : Bool), x = .ref l ∧ vs = [.bl k] ∧ SqL K H l (bs.map V.bl) ∧ Q (.int (bs.count k : Nat)) H
theorem bools_of_vals : ∀ {bs : List Bool} {us : List Value}, Vals (bs.map V.bl) us → us = bs.map Value.bool
  | [], _, .nil => rfl
  | b :: bs, _, .cons r t => by
    cases (show _ = Value.bool b from r)
    rw [bools_of_vals t]
    rfl
theorem reads_bools (h : Heap) : ∀ bs : List Bool, ∃ as, ReadsAll h (bs.map Value.bool) (bs.map PyData.bool) as
  | [] => ⟨[], .nil⟩
  | b :: bs => by
    obtain ⟨as, r⟩ := reads_bools h bs
    exact ⟨_, .cons (.bool b) r⟩
theorem count_bools (k : Bool) : ∀ bs : List Bool, countIn (.bool k) (bs.map PyData.bool) = ((bs.count k : Nat) : Int)
  | [] => rfl
  | b :: bs => by
    rw [List.map_cons, countIn, count_bools k bs, List.count_cons]
    simp only [same]
    push_cast
    rcases Bool.eq_false_or_eq_true (b == k) with hb | hb <;> simp [hb] <;> omega
theorem mt_countB : MtR X "list.count" (fun x vs H Q => mCntB X.K x vs H Q) := by
  intro pins s σ H x xs v us Q I rx rxs h
  obtain ⟨p, bs, k, rfl, rfl, hs, q⟩ := h
  cases rx
  obtain ⟨u, rfl, ru⟩ := rxs.one
  cases (show u = Value.bool k from ru)
  obtain ⟨its, rv, pl, hz⟩ := I.list hs
  obtain rfl := bools_of_vals rv
  obtain ⟨as, ra⟩ := reads_bools s.heap bs
  have hall : (bs.map PyData.bool).all Shape.bool.has = true := by
    rw [List.all_map, List.all_eq_true]
    intro b _
    rfl
  refine count_list_bools (l := p) (vs := bs.map Value.bool) (hp := s.heap) (as := as) (k := k) pl.isList ra hall ⟨.int (bs.count k : Nat), H, I.tok _, ⟨s.toks, by rw [count_bools]⟩, q⟩
theorem m_cntB : SM X "list.count" (mCntB X.K) := ⟨_, mt_countB, fun x vs H Q ⟨l, bs, k, e1, e2, h, q⟩ H1 x => ⟨l, bs, k, e1, e2, x.sqL h, H, x, q⟩⟩
end
/-! ## the history of a queue: what waits, was dropped, was passed -/
structure ArOk (cap : Nat) (r : Arr) : Prop where
  w : WOk r.w r.low cap
  pw : r.w.Pairwise (· < ·)
  hb : Big r.high
  lh : r.low ≤ r.high
  m0 : -1 ≤ r.mark
  m1 : Big r.mark
theorem lawDue_app (cap : Nat) (v : Int) : ∀ (xs ys : List Arr), lawDue cap v (xs ++ ys) = (lawDue cap v xs).orElse fun _ => lawDue cap v ys
  | [], ys => rfl
  | r :: xs, ys => by
    show (if _ then _ else lawDue cap v (xs ++ ys)) = Option.orElse (if _ then _ else lawDue cap v xs) _
    split
    · rfl
    · exact lawDue_app cap v xs ys
theorem aftA_cand {w : List Int} {lo t : Int} {cap : Nat} (k : WOk w lo cap) (sw : w.Pairwise (· < ·)) : ∀ u ∈ aftA w lo t cap, u ∈ w ∨ (lo ≤ u ∧ u ≤ t) := fun u hu => by
  unfold aftA at hu
  split at hu
  · exact .inl hu
  · exact aftR_cand k sw (by omega) u hu
/-- the certificate of a drop -/
structure Cert (cap : Nat) (v : Int) (d : Drop) : Prop where
  a : d.1 < v
  b : v < d.2.1
  len : d.2.2.length = cap - 1
  pw : d.2.2.Pairwise (· < ·)
  lo : ∀ o ∈ d.2.2, d.1 < o
  hi : ∀ o ∈ d.2.2, o < d.2.1
  pr : ∀ o ∈ d.2.2, precB o v = true
/-! ## what became of a version -/
/-- the mark at which it arrived -/
def markAt (v : Int) : Int → List Call → Option Int
  | _, [] => none
  | _, (x, none) :: r => markAt v x r
  | m, (l, some h) :: r => if l ≤ v ∧ v ≤ h then some m else markAt v m r
theorem markAt_app (v : Int) (size : Nat) : ∀ (cs ds : List Call) (m : Int) (w : List Int), markAt v m (cs ++ ds) = (markAt v m cs).orElse fun _ => markAt v (endS size m w cs).1 ds
  | [], ds, m, w => rfl
  | (x, none) :: r, ds, m, w => markAt_app v size r ds x _
  | (l, some h) :: r, ds, m, w => by
    show (if _ then _ else markAt v m (r ++ ds)) = Option.orElse (if _ then _ else markAt v m r) _
    split
    · rfl
    · exact markAt_app v size r ds m _
def Qst.at_ (q : Qst) (v : Int) : Option Int := markAt v (q.first - 1) q.calls
theorem Sim.at_arrive {q : Qst} (s : Sim q) (lo hi v : Int) : (q.arrive lo hi).at_ v = (q.at_ v).orElse fun _ => if lo ≤ v ∧ v ≤ hi then some q.mark else none := by
  show markAt v (q.first - 1) (q.calls ++ [(lo, some hi)]) = _
  rw [markAt_app v q.size q.calls _ _ [], s.e]
  rfl
theorem Sim.at_advance {q : Qst} (s : Sim q) (x v : Int) : (q.advance x).at_ v = q.at_ v := by
  show markAt v (q.first - 1) (q.calls ++ [(x, none)]) = _
  rw [markAt_app v q.size q.calls _ _ [], s.e]
  cases h : q.at_ v with
  | none => have h : markAt v (q.first - 1) q.calls = none := h; rw [h]; rfl
  | some m => have h : markAt v (q.first - 1) q.calls = some m := h; rw [h]; rfl
inductive Became (q : Qst) (v : Int) : Prop where
  | not_ (h : q.at_ v = none) (k : v ∉ q.kept) (d : lawDue q.size v q.arrs = none)
  | low (m : Int) (h : q.at_ v = some m) (le : v ≤ m) (k : v ∉ q.kept) (d : lawDue q.size v q.arrs = none)
  | waits (m : Int) (h : q.at_ v = some m) (lt : m < v) (k : v ∈ q.kept) (d : lawDue q.size v q.arrs = none) (p : q.mark < v)
  | drop (m : Int) (h : q.at_ v = some m) (lt : m < v) (k : v ∉ q.kept) (e : Drop) (d : lawDue q.size v q.arrs = some e)
  | passed (m : Int) (h : q.at_ v = some m) (lt : m < v) (k : v ∉ q.kept) (d : lawDue q.size v q.arrs = none) (p : v ≤ q.mark)
theorem callsOk_at : ∀ (cs : List Call) (b v m : Int), callsOk b cs → (markAt v m cs).isSome = true → v ≤ endB b cs
  | [], b, v, m, _, h => by cases h
  | (x, none) :: r, b, v, m, k, h => callsOk_at r b v x k.2.2 h
  | (l, some hh) :: r, b, v, m, k, h => by
    have mono : ∀ (cs : List Call) (b : Int), callsOk b cs → b ≤ endB b cs := fun cs => by
      induction cs with
      | nil => intro b _; exact Int.le_refl _
      | cons c cs ih =>
        intro b k
        obtain ⟨l, h⟩ := c
        cases h with
        | none => exact ih b k.2.2
        | some h => have := ih h k.2.2.2; have := k.1; have := k.2.1; show b ≤ endB h cs; omega
    show v ≤ endB hh r
    have h : (if l ≤ v ∧ v ≤ hh then some m else markAt v m r).isSome = true := h
    by_cases c : l ≤ v ∧ v ≤ hh
    · have := mono r hh k.2.2.2; omega
    · rw [if_neg c] at h
      exact callsOk_at r hh v m k.2.2.2 h
structure Hist (q : Qst) : Prop where
  ok : QOk q
  s : Sim q
  pw : q.kept.Pairwise (· < ·)
  km : ∀ v ∈ q.kept, q.mark < v
  st : ∀ v, Became q v
  ka : ∀ v ∈ q.kept, (q.at_ v).isSome = true
  ar : ∀ r ∈ q.arrs, ArOk q.size r ∧ (∀ o ∈ r.w, r.mark < o ∧ (q.at_ o).isSome = true) ∧ (∀ o, r.low ≤ o → o ≤ r.high → (q.at_ o).isSome = true) ∧ r.high ≤ q.bound ∧ r.mark < r.low
theorem Hist.new {cap : Nat} {s : Int} (c2 : 2 ≤ cap) (c9 : cap ≤ 9) (s0 : 0 ≤ s) (s1 : Big s) : Hist (Qst.new cap s) := ⟨QOk.new c2 c9 s0 s1, Sim.new _ _, .nil, (fun v hv => nomatch hv), fun v => .not_ rfl (fun h => nomatch h) rfl, (fun v hv => nomatch hv), fun r hr => nomatch hr⟩
theorem Hist.late {q : Qst} (h : Hist q) {v : Int} (hv : q.bound < v) : q.at_ v = none := by
  cases e : q.at_ v with
  | none => rfl
  | some m =>
    have := callsOk_at q.calls (q.first - 1) v (q.first - 1) h.ok.cs (by show (q.at_ v).isSome = true; rw [e]; rfl)
    rw [h.ok.ce] at this
    omega
theorem Hist.arrive {q : Qst} (h : Hist q) {lo hi : Int} (hlo : q.bound < lo) (hl : lo ≤ hi) (hb : Big hi) (hc : q.calls.length < 100000) : Hist (q.arrive lo hi) := by
  have w := h.ok.wok hlo
  have ek : (q.arrive lo hi).kept = aftA q.kept (mx lo (q.mark + 1)) hi q.size := rfl
  have ez : (q.arrive lo hi).size = q.size := rfl
  have em : (q.arrive lo hi).mark = q.mark := rfl
  have hm := mx_le lo (q.mark + 1)
  have ea := fun v => h.s.at_arrive lo hi v
  have keep : ∀ v, (q.at_ v).isSome = true → ((q.arrive lo hi).at_ v).isSome = true := fun v hv => by
    rw [ea v]
    cases e : q.at_ v with
    | none => rw [e] at hv; cases hv
    | some m => rfl
  have here : ∀ v, lo ≤ v → v ≤ hi → ((q.arrive lo hi).at_ v).isSome = true := fun v h1 h2 => by
    rw [ea v, if_pos ⟨h1, h2⟩]
    cases q.at_ v <;> rfl
  have cand := aftA_cand (t := hi) w h.pw
  have gone : ∀ v, v ∉ q.kept → ¬ (mx lo (q.mark + 1) ≤ v ∧ v ≤ hi) → v ∉ (q.arrive lo hi).kept := fun v h1 h2 h3 => by
    rw [ek] at h3
    exact (cand v h3).elim h1 h2
  have earr := h.s.arrs_arrive lo hi
  have due : ∀ v, lawDue q.size v (q.arrive lo hi).arrs = (lawDue q.size v q.arrs).orElse fun _ => lawDue q.size v (if mx lo (q.mark + 1) ≤ hi then [⟨q.mark, q.kept, mx lo (q.mark + 1), hi⟩] else []) := fun v => by rw [earr, lawDue_app]
  have one : ∀ v, lawDue q.size v (if mx lo (q.mark + 1) ≤ hi then [(⟨q.mark, q.kept, mx lo (q.mark + 1), hi⟩ : Arr)] else []) = if mx lo (q.mark + 1) ≤ hi ∧ (v ∈ q.kept ∨ (mx lo (q.mark + 1) ≤ v ∧ v ≤ hi)) ∧ v ∉ (q.arrive lo hi).kept then some (dropA ⟨q.mark, q.kept, mx lo (q.mark + 1), hi⟩ q.size v) else none := fun v => by
    by_cases c1 : mx lo (q.mark + 1) ≤ hi
    · rw [if_pos c1]
      show (if (holdsA ⟨q.mark, q.kept, mx lo (q.mark + 1), hi⟩ v && !decide (v ∈ aftA q.kept (mx lo (q.mark + 1)) hi q.size)) = true then some _ else none) = _
      have e : (holdsA ⟨q.mark, q.kept, mx lo (q.mark + 1), hi⟩ v && !decide (v ∈ aftA q.kept (mx lo (q.mark + 1)) hi q.size)) = true ↔ mx lo (q.mark + 1) ≤ hi ∧ (v ∈ q.kept ∨ (mx lo (q.mark + 1) ≤ v ∧ v ≤ hi)) ∧ v ∉ (q.arrive lo hi).kept := by
        unfold holdsA
        simp only [Bool.and_eq_true, Bool.or_eq_true, decide_eq_true_eq, Bool.not_eq_true', decide_eq_false_iff_not]
        exact ⟨fun z => ⟨c1, z.1, z.2⟩, fun z => ⟨z.2.1, z.2.2⟩⟩
      by_cases c2 : (holdsA ⟨q.mark, q.kept, mx lo (q.mark + 1), hi⟩ v && !decide (v ∈ aftA q.kept (mx lo (q.mark + 1)) hi q.size)) = true
      · rw [if_pos c2, if_pos (e.mp c2)]
      · rw [if_neg c2, if_neg fun z => c2 (e.mpr z)]
    · rw [if_neg c1, if_neg fun z => c1 z.1]
      rfl
  refine ⟨h.ok.arrive hlo hl hb hc, h.s.arrive lo hi, by rw [ek]; exact aftA_pw w h.pw, fun v hv => ?_, fun v => ?_, fun v hv => ?_, fun r hr => ?_⟩
  · rw [ek] at hv
    rcases cand v hv with z | z
    · exact h.km v z
    · show q.mark < v; omega
  · -- what became of it
    by_cases c : lo ≤ v ∧ v ≤ hi
    · have a0 := h.late (v := v) (by omega)
      have a1 : (q.arrive lo hi).at_ v = some q.mark := by rw [ea v, a0, if_pos c]; rfl
      have k0 : v ∉ q.kept := fun z => by have := h.ka v z; rw [a0] at this; cases this
      have d0 : lawDue q.size v q.arrs = none := by
        cases h.st v with
        | not_ _ _ d => exact d
        | low _ e => rw [a0] at e; cases e
        | waits _ e => rw [a0] at e; cases e
        | drop _ e => rw [a0] at e; cases e
        | passed _ e => rw [a0] at e; cases e
      have d1 : lawDue q.size v (q.arrive lo hi).arrs = if mx lo (q.mark + 1) ≤ hi ∧ (v ∈ q.kept ∨ (mx lo (q.mark + 1) ≤ v ∧ v ≤ hi)) ∧ v ∉ (q.arrive lo hi).kept then some (dropA ⟨q.mark, q.kept, mx lo (q.mark + 1), hi⟩ q.size v) else none := by
        rw [due v, d0, ← one v]; rfl
      by_cases le : v ≤ q.mark
      · exact .low q.mark a1 le (gone v k0 (by omega)) (by rw [ez, d1, if_neg]; rintro ⟨_, z | z, _⟩; exact k0 z; omega)
      · have hx : mx lo (q.mark + 1) ≤ v := by unfold mx; split <;> omega
        by_cases k1 : v ∈ (q.arrive lo hi).kept
        · exact .waits q.mark a1 (by omega) k1 (by rw [ez, d1, if_neg fun z => z.2.2 k1]) (by show q.mark < v; omega)
        · exact .drop q.mark a1 (by omega) k1 _ (by rw [ez, d1, if_pos ⟨by omega, .inr ⟨hx, c.2⟩, k1⟩])
    · have a1 : (q.arrive lo hi).at_ v = q.at_ v := by
        rw [ea v, if_neg c]
        cases q.at_ v <;> rfl
      have nr : ¬ (mx lo (q.mark + 1) ≤ v ∧ v ≤ hi) := by omega
      have still : lawDue q.size v q.arrs = none → v ∉ q.kept → lawDue q.size v (q.arrive lo hi).arrs = none := fun d0 k0 => by
        rw [due v, d0]
        show lawDue q.size v _ = none
        rw [one v, if_neg]
        rintro ⟨_, z | z, _⟩
        · exact k0 z
        · exact nr z
      cases h.st v with
      | not_ e k d => exact .not_ (by rw [a1]; exact e) (gone v k nr) (still d k)
      | low m e le k d => exact .low m (by rw [a1]; exact e) le (gone v k nr) (still d k)
      | waits m e lt k d p =>
        by_cases k1 : v ∈ (q.arrive lo hi).kept
        · refine .waits m (by rw [a1]; exact e) lt k1 ?_ p
          rw [ez, due v, d]
          show lawDue q.size v _ = none
          rw [one v, if_neg fun z => z.2.2 k1]
        · have c1 : mx lo (q.mark + 1) ≤ hi := by
            refine Classical.byContradiction fun z => k1 ?_
            rw [ek]
            unfold aftA
            rw [if_pos (by omega)]
            exact k
          refine .drop m (by rw [a1]; exact e) lt k1 (dropA ⟨q.mark, q.kept, mx lo (q.mark + 1), hi⟩ q.size v) ?_
          rw [ez, due v, d]
          show lawDue q.size v _ = some _
          rw [one v, if_pos ⟨c1, .inl k, k1⟩]
      | drop m e lt k dd d =>
        refine .drop m (by rw [a1]; exact e) lt (gone v k nr) dd ?_
        rw [ez, due v, d]
        rfl
      | passed m e lt k d p => exact .passed m (by rw [a1]; exact e) lt (gone v k nr) (still d k) p
  · rw [ek] at hv
    rcases cand v hv with z | z
    · exact keep v (h.ka v z)
    · exact here v (by omega) z.2
  · rw [earr] at hr
    rcases List.mem_append.mp hr with z | z
    · obtain ⟨a, b, c, d, e⟩ := h.ar r z
      exact ⟨a, fun o ho => ⟨(b o ho).1, keep o (b o ho).2⟩, fun o h1 h2 => keep o (c o h1 h2), by show r.high ≤ hi; omega, e⟩
    · by_cases c1 : mx lo (q.mark + 1) ≤ hi
      · rw [if_pos c1] at z
        obtain rfl := List.mem_singleton.mp z
        exact ⟨⟨w, h.pw, hb, c1, h.ok.m0, h.ok.m1⟩, fun o ho => ⟨h.km o ho, keep o (h.ka o ho)⟩, fun o h1 h2 => here o (by show lo ≤ o; have : mx lo (q.mark + 1) ≤ o := h1; omega) h2, Int.le_refl _, by show q.mark < mx lo (q.mark + 1); omega⟩
      · rw [if_neg c1] at z
        cases z
theorem Hist.advance {q : Qst} (h : Hist q) {x : Int} (hx : q.mark < x) (hb : Big x) (hc : q.calls.length < 100000) : Hist (q.advance x) := by
  have m0 := h.ok.m0
  have ea := fun v => h.s.at_advance x v
  have er := h.s.arrs_advance x
  have ek : (q.advance x).kept = q.kept.filter fun o => decide (o > x) := rfl
  have ez : (q.advance x).size = q.size := rfl
  have out : ∀ v, v ∉ q.kept → v ∉ (q.advance x).kept := fun v h1 h2 => h1 (List.mem_filter.mp h2).1
  refine ⟨h.ok.advance (by omega) hb hc, h.s.advance x, h.pw.sublist List.filter_sublist, fun v hv => of_decide_eq_true (List.mem_filter.mp hv).2, fun v => ?_, fun v hv => ?_, fun r hr => ?_⟩
  · cases h.st v with
    | not_ e k d => exact .not_ (by rw [ea]; exact e) (out v k) (by rw [ez, er]; exact d)
    | low m e le k d => exact .low m (by rw [ea]; exact e) le (out v k) (by rw [ez, er]; exact d)
    | waits m e lt k d p =>
      by_cases c : v > x
      · exact .waits m (by rw [ea]; exact e) lt (List.mem_filter.mpr ⟨k, decide_eq_true c⟩) (by rw [ez, er]; exact d) c
      · exact .passed m (by rw [ea]; exact e) lt (fun z => c (of_decide_eq_true (List.mem_filter.mp z).2)) (by rw [ez, er]; exact d) (by show v ≤ x; omega)
    | drop m e lt k dd d => exact .drop m (by rw [ea]; exact e) lt (out v k) dd (by rw [ez, er]; exact d)
    | passed m e lt k d p => exact .passed m (by rw [ea]; exact e) lt (out v k) (by rw [ez, er]; exact d) (by show v ≤ x; omega)
  · rw [ea]
    exact h.ka v (List.mem_filter.mp hv).1
  · rw [er] at hr
    obtain ⟨a, b, c, d, e⟩ := h.ar r hr
    exact ⟨a, fun o ho => ⟨(b o ho).1, by rw [ea]; exact (b o ho).2⟩, fun o h1 h2 => by rw [ea]; exact c o h1 h2, d, e⟩
/-! ## min(xs, key=f), max(xs, key=f), f an own def -/
section
open PySem.W (dataLt alike rcLt_alike rcGt_alike)
variable {X : Cx} {pins : List (Addr × Obj)} {σ : St} {H0 H H1 : Hp} {s0 s : Shared} {A : Around} {q : Addr} {xs : List V} {l S I : Addr} {k : V → PyData} {R : Result → Shared → Prop}
end
/-! ## the reading -/
section
open PySem.W (dataLt alike)
variable {X : Cx} {j k : Nat} {W : WX} {e : Expr} {es : List Expr} {kws : List Keyword} {σ : St} {H H1 : Hp} {Q : VK} {pos p : Pos} {to : RX} {tk : RA} {n x : Str} {sp : Sp}
end

/-! ## dict comprehensions, sorted(d), list(d.items()) -/
section
variable {X : Cx} {j : Nat} {W : WX} {e : Expr} {σ : St} {H H1 : Hp} {Q : VK} {pos p apos cpos : Pos} {t to : RX} {tc : RT} {g : RG} {tg iter : Expr}
/-- {k: v for tg in it if tc} -/
def DcP (n : Nat) (G : Hp → Prop) (Y : Nat → Hp → VK → Prop) (g : RG) (tc : RT) (tk elt : RX) (vs : List Nat) (σ : St) (H1 : Hp) (Q : VK) : Prop := ∃ Pv : Nat → List (Key × V) → Hp → Prop, Pv 0 [] H1 ∧ (∀ i acc H', i ≤ n → Pv i acc H' → G H' ∧ acc.length < 100000) ∧
  (∀ i acc H' d, i < n → Pv i acc H' → H' d = none → Y i (upd H' d (.dK acc)) fun x H2 => g x (wipe σ vs) H2 (fun σ3 H3 => wipe σ3 vs = wipe σ vs ∧ tc σ3 H3 (fun k H4 =>
    (k = true → tk σ3 H4 (fun z H5 => elt σ3 H5 (fun y H7 => ∃ kx H6, z = kV kx ∧ H6 d = none ∧ Ex (upd H6 d (.dK acc)) H7 ∧ Pv (i + 1) (putK acc kx y) H6) noW) noW) ∧ (k = false → ∃ H6, H6 d = none ∧ Ex (upd H6 d (.dK acc)) H4 ∧ Pv (i + 1) acc H6)) noW) noW) ∧
  ∀ acc H' q, Pv n acc H' → H' q = none → Q (.ref q) (upd H' q (.dK acc))
@[irreducible] def DcB (n : Nat) (G : Hp → Prop) (Y : Nat → Hp → VK → Prop) (g : RG) (tc : RT) (tk elt : RX) (vs : List Nat) (σ : St) (H1 : Hp) (Q : VK) : Prop := DcP n G Y g tc tk elt vs σ H1 Q
theorem DcB.out {n : Nat} {G : Hp → Prop} {Y : Nat → Hp → VK → Prop} {tk elt : RX} {vs : List Nat} (h : DcB n G Y g tc tk elt vs σ H1 Q) : DcP n G Y g tc tk elt vs σ H1 Q := by
  unfold DcB at h
  exact h
/-- two texts joined -/
def oAddS : RO := fun x y H Q => ∃ i j, x = .str i ∧ y = .str j ∧ i.length + j.length ≤ sizeLine ∧ Q (.str (i ++ j)) H
theorem o_addS : SO X (binaryOp .Add) oAddS := .of op_add_str fun x y H Q ⟨i, j, e1, e2, hl, q⟩ H1 x1 => ⟨i, j, e1, e2, hl, H, x1, q⟩
end
/-! ## memories: the last two multiples of each power of two -/
def mult (j : Nat) (vs : List Int) : List Int := vs.filter fun u => decide (u % 2 ^ j = 0)
def last2 {α : Type} (l : List α) : List α := l.drop (l.length - 2)
theorem last2_mem {α : Type} {l : List α} {x : α} (h : x ∈ last2 l) : x ∈ l := List.mem_of_mem_drop h
/-- is among the last two multiples of a power of two -/
def InK (vs : List Int) (v : Int) : Prop := ∃ j : Nat, v ∈ last2 (mult j vs)
theorem InK.mem {vs : List Int} {v : Int} (h : InK vs v) : v ∈ vs := by
  obtain ⟨j, h⟩ := h
  exact (List.mem_filter.mp (last2_mem h)).1
abbrev Big2 (v : Int) : Prop := 0 ≤ v ∧ v < 2 ^ 210
/-! ## a memory in the heap -/
structure Mst where
  rows : List (Int × Option Int)
  last : Option Int
abbrev Mst.vs (m : Mst) : List Int := m.rows.map (·.1)
def rowK (r : Int × Option Int) : Key × V := (.inl r.1, optV r.2)
def Mst.new : Mst := ⟨[], none⟩
structure MAt (C : Addr) (H : Hp) (a d : Addr) (m : Mst) : Prop where
  ins : ∃ dx, H a = some (.ins C dx [("known", .ref d), ("last", optV m.last)])
  kn : H d = some (.dK (m.rows.map rowK))
/-- a value that repr can tell -/
def VOk (x : Option Int) : Prop := ∀ i, x = some i → i.natAbs < 10 ^ 100
/-- what always holds of a memory -/
structure MOk (m : Mst) (n : Nat) : Prop where
  pw : m.vs.Pairwise (· < ·)
  big : ∀ u ∈ m.vs, Big2 u
  last : ∀ l, m.last = some l → Big2 l ∧ ∀ u ∈ m.vs, u ≤ l
  none_ : m.last = none → m.rows = []
  len : m.rows.length ≤ n
  vals : ∀ r ∈ m.rows, VOk r.2
theorem MOk.new : MOk .new 0 := ⟨.nil, (fun u h => nomatch h), (fun l e => nomatch e), (fun _ => rfl), Nat.le_refl _, fun _ h => nomatch h⟩
theorem MAt.fr {C : Addr} {H H' : Hp} {L : List Addr} {a d : Addr} {m : Mst} (A : MAt C H a d m) (f : Fr L H H') (n1 : a ∉ L) (n2 : d ∉ L) : MAt C H' a d m := by
  obtain ⟨⟨dx, i⟩, k⟩ := A
  exact ⟨⟨dx, f _ _ n1 i⟩, f _ _ n2 k⟩
theorem MAt.ex {C : Addr} {H H' : Hp} {a d : Addr} {m : Mst} (A : MAt C H a d m) (x : Ex H H') : MAt C H' a d m := A.fr (L := []) (.of_ex x) (by simp) (by simp)
section
variable {H : Hp} {Q : VK} {σ : St} {m : Nat} {G : Hp → Prop} {tk elt : RX}
end
/-- the rows told -/
def RowsAt (H : Hp) (ts : List Addr) (rs : List (Int × Option Int)) : Prop := Paired (fun (t : Addr) (r : Int × Option Int) => H t = some (.tup [.int r.1, optV r.2])) ts rs
def rowsD (rs : List (Int × Option Int)) : List PyData := rs.map fun r => .tuple [.int r.1, optD r.2]
theorem RowsAt.ex {H H' : Hp} {ts : List Addr} {rs : List (Int × Option Int)} (h : RowsAt H ts rs) (x : Ex H H') : RowsAt H' ts rs := by
  unfold RowsAt at *
  induction h with
  | nil => exact .nil
  | cons h _ ih => exact .cons (x _ _ h) ih
theorem RowsAt.dp {K : PySem.W.Frag} {H : Hp} {ts : List Addr} {rs : List (Int × Option Int)} (h : RowsAt H ts rs) : DpAll K H (ts.map V.ref) (rowsD rs) := by
  unfold RowsAt at h
  induction h with
  | nil => exact .nil
  | cons h _ ih => exact .cons (.tup (.of h) (.cons (.int _) (.cons (dp_opt _) .nil))) ih
theorem RowsAt.len {H : Hp} {ts : List Addr} {rs : List (Int × Option Int)} (h : RowsAt H ts rs) : ts.length = rs.length := by
  unfold RowsAt at h
  induction h with
  | nil => rfl
  | cons h _ ih => simp [ih]
theorem VOk.fits {x : Option Int} (h : VOk x) : fits (optD x) := by
  cases x with
  | none => simp [optD, G.fits]
  | some i =>
    have := h i rfl
    simp only [optD, G.fits]
    omega
def Mst.text (m : Mst) : Str := ((Str.empty ++ "Memory(versions=") ++ PyData.shown (.list (m.vs.map PyData.int))) ++ ")"
section
variable {H : Hp} {Q : VK} {σ : St} {m : Nat} {G : Hp → Prop} {elt : RX}
theorem lc_map0 {α : Type} {ps : List α} {g : α → V} (gx : α → V) (hn : ps.length < 100000) (hG : G H)
    (item : ∀ (x : α) d acc (R : VK), x ∈ ps → H d = none → (∀ H5, Ex (upd H d (.lst acc)) H5 → R (gx x) H5) → elt (put (wipe σ [m]) m (g x)) (upd H d (.lst acc)) R noW)
    (done : ∀ q, H q = none → Q (.ref q) (upd H q (.lst (ps.map gx)))) : LcB (ps.map g).length G (yAt (ps.map g)) (gName m) tY elt [m] σ H Q := by
  refine lcB (fun i acc H' => H' = H ∧ acc = (ps.take i).map gx) ⟨rfl, by simp⟩ (fun i acc H' hi p => ?_) (fun i acc H' d hi p nd => ?_) fun acc H' q p nq => ?_
  · obtain ⟨rfl, rfl⟩ := p
    refine ⟨hG, ?_⟩
    have h2 := List.length_take_le' i ps
    rw [List.length_map]
    omega
  · obtain ⟨rfl, rfl⟩ := p
    intro x hx
    rw [List.getElem?_map] at hx
    obtain ⟨u, hu, rfl⟩ := Option.map_eq_some_iff.mp hx
    have mu := List.mem_of_getElem? hu
    have ht : ps.take (i + 1) = ps.take i ++ [u] := by rw [List.take_succ, hu]; rfl
    refine ⟨wipe_put, fun _ => item u d _ _ mu nd fun H6 x6 => ⟨H', nd, x6, rfl, ?_⟩, fun z => nomatch z⟩
    rw [ht, List.map_append]
    rfl
  · obtain ⟨rfl, rfl⟩ := p
    rw [List.length_map, List.take_length]
    exact done q nq
end
/-- rows kept in a list of tuples -/
abbrev RowP := Addr × (Int × Option Int)
def rowV (q : RowP) : V := .ref q.1
def PsAt (H : Hp) (ps : List RowP) : Prop := ∀ q ∈ ps, H q.1 = some (.tup [.int q.2.1, optV q.2.2])
theorem PsAt.ex {H H' : Hp} {ps : List RowP} (h : PsAt H ps) (x : Ex H H') : PsAt H' ps := fun q hq => x _ _ (h q hq)
theorem PsAt.fr {H H' : Hp} {L : List Addr} {ps : List RowP} (h : PsAt H ps) (f : Fr L H H') (hL : ∀ b ∈ L, ∀ xs, H b ≠ some (.tup xs)) : PsAt H' ps := fun q hq => f _ _ (fun z => hL _ z _ (h q hq)) (h q hq)
theorem PsAt.dp {K : PySem.W.Frag} {H : Hp} : ∀ {ps : List RowP}, PsAt H ps → DpAll K H (ps.map rowV) (rowsD (ps.map (·.2)))
  | [], _ => .nil
  | q :: ps, h => .cons (.tup (.of (h q (List.mem_cons_self ..))) (.cons (.int _) (.cons (dp_opt _) .nil))) (PsAt.dp (ps := ps) fun r hr => h r (List.mem_cons_of_mem _ hr))
theorem data_same {d : PyData} (h : SeqAt.shaped d = true) : PyData.eqv d d = true := SeqAt.eqv_refl d (SeqAt.canLay_of_shaped h)
theorem empty_app (a : Str) : Str.empty ++ a = a := by
  show Str.mk (#[] ++ a.cps) = a
  rw [Array.empty_append]
/-! ## a comprehension in a comprehension; list(xs) of a list or a tuple -/
section
variable {X : Cx}
end
/-! ## memories in groups -/
abbrev MemP := Addr × Addr × Mst
def MsAt (C : Addr) (H : Hp) (ms : List MemP) : Prop := ∀ q ∈ ms, MAt C H q.1 q.2.1 q.2.2 ∧ MOk q.2.2 62
theorem MsAt.ex {C : Addr} {H H' : Hp} {ms : List MemP} (h : MsAt C H ms) (x : Ex H H') : MsAt C H' ms := fun q hq => ⟨(h q hq).1.ex x, (h q hq).2⟩
theorem MsAt.sub {C : Addr} {H : Hp} {ms ls : List MemP} (h : MsAt C H ms) (s : ∀ q ∈ ls, q ∈ ms) : MsAt C H ls := fun q hq => h q (s q hq)
/-! ## the text of rows can be laid -/
/-! ## how many are kept; the last two of a sorted list; the common one -/
/-! ## sets of ints: comprehensions, not in, len(set(xs)); things that are lists or tuples -/
section
variable {X : Cx}
/-- a set of ints, however its table came about -/
def SetQ (a : Addr) (S : Int → Bool) : HO := .ext fun h => ∃ w c, SetR w h a S c
end

section
variable {X : Cx} {j : Nat} {W : WX} {e : Expr} {σ : St} {H H1 : Hp} {Q : VK} {pos p : Pos} {t to : RX} {tc : RT} {g : RG} {tg iter : Expr} {w : World}
/-- the set of the ints in the list -/
@[irreducible] def SetL (a : Addr) (ns : List Int) : HO := SetQ a (fun j => decide (j ∈ ns))
/-- {v for tg in it if tc}, ints: the values in their order -/
def SiP (n : Nat) (G : Hp → Prop) (Y : Nat → Hp → VK → Prop) (g : RG) (tc : RT) (elt : RX) (vs : List Nat) (σ : St) (H1 : Hp) (Q : VK) : Prop := ∃ Pv : Nat → List Int → Hp → Prop, Pv 0 [] H1 ∧ (∀ i acc H', i ≤ n → Pv i acc H' → G H' ∧ acc.length < 1000) ∧
  (∀ i acc (o : HO) H' d, i < n → Pv i acc H' → H' d = none → Y i (upd H' d o) fun x H2 => g x (wipe σ vs) H2 (fun σ3 H3 => wipe σ3 vs = wipe σ vs ∧ tc σ3 H3 (fun k H4 =>
    (k = true → elt σ3 H4 (fun y H7 => ∃ kx H6, y = .int kx ∧ H6 d = none ∧ Ex (upd H6 d o) H7 ∧ Pv (i + 1) (acc ++ [kx]) H6) noW) ∧ (k = false → ∃ H6, H6 d = none ∧ Ex (upd H6 d o) H4 ∧ Pv (i + 1) acc H6)) noW) noW) ∧
  ∀ acc H' q, Pv n acc H' → H' q = none → Q (.ref q) (upd H' q (SetL q acc))
@[irreducible] def SiB (n : Nat) (G : Hp → Prop) (Y : Nat → Hp → VK → Prop) (g : RG) (tc : RT) (elt : RX) (vs : List Nat) (σ : St) (H1 : Hp) (Q : VK) : Prop := SiP n G Y g tc elt vs σ H1 Q
theorem SiB.out {n : Nat} {G : Hp → Prop} {Y : Nat → Hp → VK → Prop} {elt : RX} {vs : List Nat} (h : SiB n G Y g tc elt vs σ H1 Q) : SiP n G Y g tc elt vs σ H1 Q := by
  unfold SiB at h
  exact h
end
/-! ## walks over dicts (locked meanwhile), o.f += e, dict(pairs), d == {} -/
section
variable {X : Cx} {j : Nat} {W : WX} {e o : Expr} {st : Stmt} {σ : St} {H H1 : Hp} {Q : VK} {pos p apos cpos tpos : Pos} {t to te : RX} {zs : RS} {r : RO} {tg iter : Expr} {f : Str} {C : Addr} {elts : List Expr} {kk : Nat}
end
/-! ## stores: segments, changes -/
structure Seg where
  low : Int
  high : Int
  first : Int
  rise : Int
  added : Int
def Seg.num (g : Seg) (v : Int) : Int := g.first + g.rise * ((if g.high < v then g.high else v) - g.low)
structure Chg where
  word : Str
  cell : Str
  amount : Int
  many : Int
def sAsg : Str := "assign"
def sAdd : Str := "add"
def sRep : Str := "repeat"
structure Chg.Ok (c : Chg) : Prop where
  w : c.word = sAsg ∨ c.word = sAdd ∨ c.word = sRep
  m1 : 1 ≤ c.many
  one : c.word ≠ sRep → c.many = 1
/-! ## tables of functions: D[word](..), D a dict of the module from texts to defs; word in D -/
structure TabF (P : Program) (w : World) (K : PySem.W.Frag) (mg : Str → Option Value) (base : Heap) (D : Addr) (k : Nat) (tab : List (Str × Sp)) : Prop where
  at_ : ∀ q ∈ tab, ∃ (f : Addr) (fd : FuncData) (ps : List Str), FnG P w K mg base k f fd ps q.2 ∧ PySem.W.keepIn K (.ref f) = true ∧ Binds K fd ps [] ∧ KDct K w D q.1 (.ref f)
section
variable {X : Cx} {j k : Nat} {W : WX} {e i : Expr} {es : List Expr} {σ : St} {H H1 : Hp} {Q : VK} {pos p p2 : Pos} {ti : RX} {tr : RA} {x : Str} {D : Addr} {tab : List (Str × Sp)}
end
section
variable {P : Program} {w : World} {K : PySem.W.Frag} {mg : Str → Option Value} {base : Heap} {D f : Addr} {k k' : Nat} {tab : List (Str × Sp)} {n z : Str} {ps : List Str} {sp : Sp}
theorem TabF.nil : TabF P w K mg base D k [] := ⟨fun _ h => nomatch h⟩
theorem FnG.up {fd : FuncData} (F : FnG P w K mg base k' f fd ps sp) (h : k' ≤ k) : FnG P w K mg base k f fd ps sp := ⟨F.len, fun A outer s H1 args us vs H Q E hr => F.run A outer s H1 args us vs H Q E (hr.mono h)⟩
theorem TabF.cons (C : Cal P w K mg base n k' ps [] sp) (hg : mg n = some (.ref f)) (kd : KDct K w D z (.ref f)) (T : TabF P w K mg base D k tab) (hk : k' ≤ k := by decide) : TabF P w K mg base D k ((z, sp) :: tab) := ⟨fun q hq => by
  rcases List.mem_cons.mp hq with e | h
  · subst e
    obtain ⟨f2, fd, ds, F, hm, hkp, hb, hd, _⟩ := C.ex
    rw [hg] at hm
    cases hm
    cases hd
    exact ⟨f, fd, ps, F.up hk, hkp, hb, kd⟩
  · exact T.at_ q h⟩
end
/-! ## letters, texts of data -/
/-- data of depth at most n that can be laid -/
structure Lay (n : Nat) (d : PyData) : Prop where
  l : PyData.canLay0 d = true
  d : PyData.depth d ≤ n
theorem Lay.shaped {n : Nat} {d : PyData} (h : Lay n d) (hn : n ≤ 64) : SeqAt.shaped d = true := by
  show (PyData.canLay0 d && decide (PyData.depth d ≤ 64)) = true
  rw [h.l, decide_eq_true (Nat.le_trans h.d hn)]
  rfl
theorem Lay.up {n m : Nat} {d : PyData} (h : Lay n d) (hn : n ≤ m) : Lay m d := ⟨h.l, Nat.le_trans h.d hn⟩
theorem Lay.int {i : Int} : Lay 0 (.int i) := ⟨rfl, Nat.le_refl _⟩
theorem Lay.bl {i : Bool} : Lay 0 (.bool i) := ⟨rfl, Nat.le_refl _⟩
theorem Lay.non : Lay 0 .none := ⟨rfl, Nat.le_refl _⟩
theorem Lay.str {z : Str} (h : PyData.strOk z = true) : Lay 0 (.str z) := ⟨h, Nat.le_refl _⟩
theorem Lay.all {n : Nat} : ∀ {ds : List PyData}, (∀ d ∈ ds, Lay n d) → PyData.canLayAll0 ds = true ∧ PyData.depthAll ds ≤ n
  | [], _ => ⟨rfl, Nat.zero_le _⟩
  | d :: ds, h => by
    obtain ⟨h1, h2⟩ := Lay.all fun e he => h e (.tail _ he)
    have h0 := h d (.head _)
    refine ⟨?_, ?_⟩
    · show (PyData.canLay0 d && PyData.canLayAll0 ds) = true
      rw [h0.l, h1]
      rfl
    · show max (PyData.depth d) (PyData.depthAll ds) ≤ n
      exact Nat.max_le.mpr ⟨h0.d, h2⟩
theorem Lay.lst {n : Nat} {ds : List PyData} (h : ∀ d ∈ ds, Lay n d) : Lay (n + 1) (.list ds) := ⟨(Lay.all h).1, Nat.succ_le_succ (Lay.all h).2⟩
theorem Lay.tup {n : Nat} {ds : List PyData} (h : ∀ d ∈ ds, Lay n d) : Lay (n + 1) (.tuple ds) := ⟨(Lay.all h).1, Nat.succ_le_succ (Lay.all h).2⟩
/-! ## methods of texts -/
section
variable {X : Cx} {j : Nat}
end
/-! ## names -/
def lettersS : Str := "abcdefghijklmnopqrstuvwxyz"
/-- the names that a law tries -/
def cand (w : Str) : List Str := w :: lettersS.cps.toList.map fun c => cutS w none (some 7) ++ ⟨#[c]⟩
/-! ## a tuple by 0, by 1, by more -/
section
variable {X : Cx} {j : Nat}
/-! ## dicts that hold the same -/
/-! ## d.clear() -/
end
/-! ## targets with a star -/
section
variable {prog : Program} {w : World} {A : Around} {E : Value → Shared → Prop} {s : Shared}
end
section
variable {X : Cx} {j : Nat} {tg : Expr} {tgs : List Expr} {g : RG} {gs : RGs} {p pos : Pos}
end
/-! ## a def that calls itself: at depth 0 it promises nothing -/
def noSp : Sp := fun _ _ _ _ => False
section
variable {P : Program} {w : World} {K : PySem.W.Frag} {mg : Str → Option Value} {base : Heap} {n : Str} {st : Stmt} {ps : List Str} {k : Nat}
theorem Def.no (d : Def K mg n st ps) : Cal P w K mg base n k ps [] noSp :=
  ⟨d.f, d.fd, [], ⟨fun _ _ _ _ h => h.elim, fun _ _ _ _ _ _ _ _ _ _ _ _ _ _ _ _ h => h.elim⟩, d.g, d.F.kp, d.b, .nil, by
    obtain ⟨oc, od, kV, doc, pm, an, cd, ct, osl, e, lk, _⟩ := d.F.ex
    exact ⟨oc, od, osl, lk⟩⟩
/-! ## a name that holds one of some defs, called -/
structure FunV (P : Program) (w : World) (K : PySem.W.Frag) (mg : Str → Option Value) (base : Heap) (k : Nat) (tab : List (Addr × Sp)) : Prop where
  at_ : ∀ q ∈ tab, ∃ (fd : FuncData) (ps : List Str), FnG P w K mg base k q.1 fd ps q.2 ∧ PySem.W.keepIn K (.ref q.1) = true ∧ Binds K fd ps []
theorem FunV.nil : FunV P w K mg base k [] := ⟨fun _ h => nomatch h⟩
theorem FunV.cons {f : Addr} {sp : Sp} {k' : Nat} {tab : List (Addr × Sp)} (C : Cal P w K mg base n k' ps [] sp) (hg : mg n = some (.ref f)) (T : FunV P w K mg base k tab) (hk : k' ≤ k := by decide) : FunV P w K mg base k ((f, sp) :: tab) := ⟨fun q hq => by
  rcases List.mem_cons.mp hq with e | h
  · subst e
    obtain ⟨f2, fd, ds, F, hm, hkp, hb, hd, _⟩ := C.ex
    rw [hg] at hm
    cases hm
    cases hd
    exact ⟨fd, ps, F.up hk, hkp, hb⟩
  · exact T.at_ q h⟩
end
section
variable {X : Cx} {j k : Nat} {W : WX} {e : Expr} {es : List Expr} {σ : St} {H H1 : Hp} {Q : VK} {pos p : Pos} {ti : RX} {tr : RA} {x : Str} {tab : List (Addr × Sp)}
end
/-! ## dicts of the module, from texts to what is written -/
section
variable {X : Cx} {D : Addr} {tab : List (Str × V)}
end
/-! ## // by a divisor of either sign -/
/-! ## try: readings -/
section
variable {X : Cx} {j : Nat} {W : WX} {body suite : List Stmt} {b0 : Stmt} {n x : Str} {i k : Nat} {C : Addr} {np pos pos' : Pos} {zb : RS}
/-- the code of a suite: nothing may be raised there, no own def be called -/
theorem Cn.hot (cn : Cn X W j) (a : Addr) (pn : List (Addr × Obj)) : Cn (X.suite a pn) (upW noW) j :=
  ⟨fun z => absurd (show false = true from z) (by decide), cn.un, cn.gd, fun u s' ⟨_, _, _, _, _, _, _, _, _, _, _, _, _, _, _, _, w⟩ => w.elim fun _ w => w.2.elim, fun _ _ _ _ _ z _ => z.elim fun _ w => w.2.elim⟩
abbrev RH := Addr → Value → Option Addr → RS
structure SH (X : Cx) (j : Nat) (zh : RH) (sts : List Stmt) : Prop where
  run : ∀ (a : Addr) (oe : Obj) (cls : Value) (d : Option Addr) (pn : List (Addr × Obj)), Zc cls d oe → (∃ vs, oe.data = .fields vs) → SSs (X.suite a ((a, oe) :: pn)) j (zh a cls d) sts
end
/-! ## numbers and their texts -/
section
variable {X : Cx} {j : Nat}
end
/-! ## figures: the text of a number -/
/-! ## loops whose body has a name -/
section
variable {n : Nat} {G : Hp → Prop} {body : RS} {D : Ends} {W : WX} {σ : St} {H1 : Hp} {s : Nat}
theorem zNil_i {H : Hp} (h : D.nx σ H) : zNil D W σ H := h
end
/-! ## repr of data with dicts in it -/
mutual
/-- no list and no dict in it -/
def flatD : PyData → Bool
  | .none => true
  | .bool _ => true
  | .int _ => true
  | .str _ => true
  | .tuple xs => flatDs xs
  | .list _ => false
  | .dict _ => false
def flatDs : List PyData → Bool
  | [] => true
  | x :: xs => flatD x && flatDs xs
end
section
variable {X : Cx} {pins : List (Addr × Obj)} {σ : St} {H : Hp} {s : Shared}
end
def keyD : Key → PyData
  | .inl i => .int i
  | .inr x => .str x
/-- what a dict of flat things holds -/
inductive Dk (K : PySem.W.Frag) (H : Hp) : List (Key × V) → List (PyData × PyData) → Prop where
  | nil : Dk K H [] []
  | cons {k : Key} {v : V} {d : PyData} {kvs : List (Key × V)} {ds : List (PyData × PyData)} (h : Dp K H v d) (f : flatD d = true) (r : Dk K H kvs ds) : Dk K H ((k, v) :: kvs) ((keyD k, d) :: ds)
inductive D1 (K : PySem.W.Frag) (H : Hp) : V → PyData → Prop where
  | of {v : V} {d : PyData} (h : Dp K H v d) (f : flatD d = true) : D1 K H v d
  | dct {a : Addr} {kvs : List (Key × V)} {ds : List (PyData × PyData)} (h : H a = some (.dK kvs)) (r : Dk K H kvs ds) : D1 K H (.ref a) (.dict ds)
inductive D1s (K : PySem.W.Frag) (H : Hp) : List V → List PyData → Prop where
  | nil : D1s K H [] []
  | cons {v : V} {d : PyData} {vs : List V} {ds : List PyData} (h : D1 K H v d) (r : D1s K H vs ds) : D1s K H (v :: vs) (d :: ds)
inductive D2 (K : PySem.W.Frag) (H : Hp) : V → PyData → Prop where
  | of {v : V} {d : PyData} (h : Dp K H v d) : D2 K H v d
  | one {v : V} {d : PyData} (h : D1 K H v d) : D2 K H v d
  | lst {a : Addr} {xs : List V} {ds : List PyData} (h : H a = some (.lst xs)) (n : (a == sysModules) = false) (r : D1s K H xs ds) : D2 K H (.ref a) (.list ds)
theorem Dk.ex {K : PySem.W.Frag} {H H' : Hp} (x : Ex H H') {kvs : List (Key × V)} {ds : List (PyData × PyData)} (h : Dk K H kvs ds) : Dk K H' kvs ds := by
  induction h with
  | nil => exact .nil
  | cons h f _ ih => exact .cons (Dp.ex x h) f ih
theorem D1.ex {K : PySem.W.Frag} {H H' : Hp} (x : Ex H H') {v : V} {d : PyData} (h : D1 K H v d) : D1 K H' v d := by
  cases h with
  | of h f => exact .of (Dp.ex x h) f
  | dct h r => exact .dct (x _ _ h) (r.ex x)
theorem D1s.ex {K : PySem.W.Frag} {H H' : Hp} (x : Ex H H') {vs : List V} {ds : List PyData} (h : D1s K H vs ds) : D1s K H' vs ds := by
  induction h with
  | nil => exact .nil
  | cons h _ ih => exact .cons (h.ex x) ih
theorem D2.ex {K : PySem.W.Frag} {H H' : Hp} (x : Ex H H') {v : V} {d : PyData} (h : D2 K H v d) : D2 K H' v d := by
  cases h with
  | of h => exact .of (Dp.ex x h)
  | one h => exact .one (h.ex x)
  | lst h n r => exact .lst (x _ _ h) n (r.ex x)
section
variable {X : Cx} {pins : List (Addr × Obj)} {σ : St} {H : Hp} {s : Shared}
end
/-- data, dicts among it, that repr can tell -/
structure RqOk (d : PyData) : Prop where
  l : PyData.leavesShort 130 d = true
  s : PyData.showable d = true
  b : d.bulk ≤ 20000
  p : d.depth ≤ 60
theorem RpOk.q {d : PyData} (h : RpOk d) : RqOk d := ⟨(fits.short d h.f).1, (fits.short d h.f).2.1, h.b, h.p⟩
theorem RqOk.len {d : PyData} (h : RqOk d) : d.shown.length ≤ sizeLine := by
  have := PyData.shown_le_bulk 130 (by decide) d h.l
  have b := h.b
  rw [sizeLine_eq]
  omega
section
variable {X : Cx} {j : Nat} {W : WX} {k : Nat} {H : Hp} {v : V} {d : PyData} {e : Expr} {es : List Expr} {tr : RA} {pos p : Pos}
end
/-! ## is True, is False of numbers; the order of texts -/
section
variable {X : Cx}
end
/-! ## own errors whose __init__ is a def -/
/-- what a call of an own class does whose __new__ is newId -/
def MakesOwn (newId : String) (tl : List Value) : Prop := ∀ {prog : Program} {w : World} {A : Around} {R : Result → Shared → Prop} {hp : Heap} {g : Array GenState} {d : Drawn} {t : Nat} {os : OsState}
    {nm q : Str} {C N fI : Addr} {bs bm rest sub : List Value} {hdct ab : Bool} {sn : List Str} {col : Option Bool} {dd : Option Addr} {k0 k1 k2 k3 k5 : Option Value},
    (∀ Y : String, bm.contains (.type Y) = tl.contains (.type Y)) → hp.get? C = some (excClassObj nm q C N bs bm hdct sn sub ab col dd k0 k1 k2 k3 k5 newId) →
    PySem.W.Looks (model prog w) hp (typeLookup (.ref C) "__init__") (some (.ref fI)) → (∀ self, PySem.W.Looks (model prog w) hp (bindSpecial (.ref fI) self) (.ref fI, [self])) → rest.length ≤ sizeLine →
    codeAny (model prog w) (A.under (.builtin "type.__call__" ⟨.ref C :: rest, []⟩)) (.call (.ref fI) ⟨.ref (hp.objs.size + 1) :: rest, []⟩) (PySem.W.InitBack (hp.objs.size + 1) R)
      ⟨(hp.push (PySem.W.kdv_tup rest)).push (PySem.HandSPX.excO C hp.objs.size), g, d, t, os⟩ → codeAny (model prog w) A (.call (.ref C) ⟨rest, []⟩) R ⟨hp, g, d, t, os⟩
/-- what B.__init__(e, ..) does -/
def InitsOwn (newId initId : String) (tl : List Value) : Prop := ∀ {prog : Program} {w : World} {A : Around} {R : Result → Shared → Prop} {hp : Heap} {g : Array GenState} {d : Drawn} {t : Nat} {os : OsState}
    {nm q : Str} {C N e t0 : Addr} {bs bm rest sub : List Value} {hdct ab : Bool} {sn : List Str} {col : Option Bool} {dd : Option Addr} {k0 k1 k2 k3 k5 : Option Value},
    (∀ Y : String, bm.contains (.type Y) = tl.contains (.type Y)) → hp.get? C = some (excClassObj nm q C N bs bm hdct sn sub ab col dd k0 k1 k2 k3 k5 newId) → hp.get? e = some (PySem.HandSPX.excO C t0) → rest.length ≤ sizeLine →
    (∀ h2 t1, (∀ b o, b ≠ e → hp.get? b = some o → h2.get? b = some o) → h2.get? e = some (PySem.HandSPX.excO C t1) → R (.ok (.ret .none)) ⟨h2, g, d, t, os⟩) →
    codeAny (model prog w) A (.call (.builtin initId) ⟨.ref e :: rest, []⟩) R ⟨hp, g, d, t, os⟩
theorem makes_of {B newId initId : String} {tl : List Value} (F : ExcBaseFacts B newId initId tl) : MakesOwn newId tl := fun hT hC hi hb hr hq => PySem.HandSPX.call_own F hT hC hi hb hr hq
theorem inits_of {B newId initId : String} {tl : List Value} (F : ExcBaseFacts B newId initId tl) : InitsOwn newId initId tl := fun hT hC he hr hq => PySem.HandSPX.init_base F hT hC he hr hq
/-- an own class of error over the built-in class B -/
structure OwE (K : PySem.W.Frag) (C : Addr) (B newId initId : String) (tl : List Value) : Prop where
  mo : MakesOwn newId tl
  ib : InitsOwn newId initId tl
  sf : StoreFacts B tl "object.__setattr__" "object"
  ini : PySem.W.excInitIn K C tl newId = true
  over : PySem.W.excOver K C tl = true
  hd : PySem.W.hasDictIn K C = true
  sa : PySem.W.findIn K (.ref C) "__setattr__" = some (some (.builtin "object.__setattr__"))
  sb : PySem.W.subIn K (.ref C) (.type "BaseException") = some true
  ty : PySem.W.typeIn K (.ref C) = some (.type "type")
  kp : PySem.W.keepIn K (.ref C) = true
section
open Builtin Builtin.ObjectAttr
variable {prog : Program} {w : World} {A : Around} {R : Result → Shared → Prop} {hp : Heap} {g : Array GenState} {dr : Drawn} {t0 : Nat} {os : OsState} {K : PySem.W.Frag} {B newId initId : String} {tl : List Value} {x C : Addr} {fn : Str} {tok : Tok} {val : Value} {fv : Array Value}
theorem exa_first (T : OwE K C B newId initId tl) (KX : K.In hp) (hx : hp.get? x = some { cls := .ref C, data := .fields fv }) (ha : PySem.W.findIn K (.ref C) fn = some none)
    (hq : ∀ h2 t2 dx, (∀ b o, b ≠ x → hp.get? b = some o → h2.get? b = some o) → hp.objs.size ≤ dx → dx ≠ x → h2.get? x = some { cls := .ref C, dict := some dx, data := .fields fv } → h2.Ns1 dx (fun y => if y = fn then some val else none) → R (.ok (.ret .none)) ⟨h2, g, dr, t2, os⟩) :
    codeAny (model prog w) A (.call (.builtin "object.__setattr__") ⟨[.ref x, .str fn tok, val], []⟩) R ⟨hp, g, dr, t0, os⟩ := by
  have J : PySem.W.InstAt hp x { cls := .ref C, data := .fields fv } C none := ⟨hx, rfl, rfl, trivial⟩
  obtain ⟨cd, hcd, hh⟩ := PySem.W.any_some T.hd
  have Lc : PySem.W.Looks (model prog w) hp (classData C) cd := PySem.W.looks_clsIn KX hcd
  have far : x ≠ hp.objs.size := Nat.ne_of_lt (Heap.lt_size hx)
  refine PySem.W.osa_openX T.sf KX J T.over (r := none) (by unfold PySem.W.takerIn; rw [ha]; rfl) fun b => ?_
  obtain ⟨c1, c2, c3, c4, c5, hdct, c7, c8, c9, c10, c11⟩ := cd
  dsimp only at hh
  subst hh
  show wpAny _ _ (storeInOwnDict (.ref x) (.ref C) (.str fn tok) fn val b) _ _ _
  unfold storeInOwnDict ownDictForStores
  repeat (first | with_reducible refine PySem.HandSPX.store_in_new ?_ ?_ | with_reducible refine wpAny_loadPart_at hx ?_ | with_reducible refine Lc.at ?_ | wp_step)
  · exact ⟨_, #[], _, (Heap.get?_update_ne _ _ _ _ far.symm).trans (Heap.get?_push_at rfl rfl), rfl, fun e he => absurd he (by simp), fun _ => rfl⟩
  · intro h2 t2 hn hs
    have hx2 : (hp.push { cls := .type "dict", data := .dict #[] }).get? x = some { cls := .ref C, data := .fields fv } := Heap.get?_push_of_some _ hx
    refine hq h2 t2 hp.objs.size (fun b o hb ho => (hs.2 b (Nat.ne_of_lt (Heap.lt_size ho))).trans ((Heap.get?_update_ne _ _ _ _ hb).trans (Heap.get?_push_of_some _ ho))) (Nat.le_refl _) far.symm ?_ hn
    exact (hs.2 x far).trans (Heap.get?_update_self _ hx2 rfl)
theorem exa_next {dx : Addr} {m0 : Str → Option Value} {ns : List Str} (T : OwE K C B newId initId tl) (KX : K.In hp) (hx : hp.get? x = some { cls := .ref C, dict := some dx, data := .fields fv }) (hn : hp.Ns1 dx m0) (hw : Within m0 ns) (hz : ns.length ≤ 1000) (ha : PySem.W.findIn K (.ref C) fn = some none)
    (hq : ∀ h2 t2, (∀ b o, b ≠ dx → hp.get? b = some o → h2.get? b = some o) → h2.Ns1 dx (fun y => if y = fn then some val else m0 y) → R (.ok (.ret .none)) ⟨h2, g, dr, t2, os⟩) :
    codeAny (model prog w) A (.call (.builtin "object.__setattr__") ⟨[.ref x, .str fn tok, val], []⟩) R ⟨hp, g, dr, t0, os⟩ := by
  obtain ⟨oD, e1, e2, hoD, e3, _⟩ := hn.count hw
  have J : PySem.W.InstAt hp x { cls := .ref C, dict := some dx, data := .fields fv } C (some oD) := ⟨hx, rfl, rfl, hoD⟩
  obtain ⟨cd, hcd, hh⟩ := PySem.W.any_some T.hd
  have Lc : PySem.W.Looks (model prog w) hp (classData C) cd := PySem.W.looks_clsIn KX hcd
  refine PySem.W.osa_openX T.sf KX J T.over (r := none) (by unfold PySem.W.takerIn; rw [ha]; rfl) fun b => ?_
  obtain ⟨c1, c2, c3, c4, c5, hdct, c7, c8, c9, c10, c11⟩ := cd
  dsimp only at hh
  subst hh
  show wpAny _ _ (storeInOwnDict (.ref x) (.ref C) (.str fn tok) fn val b) _ _ _
  unfold storeInOwnDict ownDictForStores
  repeat (first | with_reducible refine PySem.OEX.store_in_old hn hw hz ?_ | with_reducible refine wpAny_loadPart_at hx ?_ | with_reducible refine Lc.at ?_ | wp_step)
  intro h2 t2 hn2 hs
  exact hq h2 t2 (fun b o hb ho => (hs.2 b hb).trans ho) hn2
end
section
variable {X : Cx} {pins : List (Addr × Obj)} {σ : St} {H : Hp} {s : Shared} {a C dx : Addr} {f : Str} {y : V} {u : Value} {fs : List (Str × V)} {Q : Unit → Shared → Prop} {E : Value → Shared → Prop} {A : Around} {B newId initId : String} {tl : List Value}
/-- e.f = y: the first field -/
theorem fld_first (T : OwE X.K C B newId initId tl) (I : Inv X pins σ H s) (ea : H a = some (exo a C none)) (hno : PySem.W.findIn X.K (.ref C) f = some none) (ry : RelV y u)
    (k : ∀ dx s2, H dx = none → dx ≠ a → Inv X pins σ (upd (upd H dx (exd dx [(f, y)])) a (exo a C (some dx))) s2 → Q () s2) : wpAny (model X.prog X.w) A (setAttr (.ref a) f u) Q E s := by
  obtain ⟨t1, ho⟩ := exo_at I.hok ea
  obtain ⟨hp, g, d, t, os⟩ := s
  refine PySem.W.set_plain I.kIn (ox := { cls := .ref C, dict := none, data := .fields #[.ref t1, .none, .none, .none, .bool false, .none] }) (od := none) ⟨ho, rfl, rfl, trivial⟩ T.sa ?_
  refine exa_first T I.kIn ho hno fun h2 t2 dx kp dn dne hx hn => ?_
  have nH : H dx = none := I.hok.fresh dn
  have ndx : ∀ {b : Addr} {o : Obj}, hp.get? b = some o → b ≠ dx := fun {b o} z => Nat.ne_of_lt (Nat.lt_of_lt_of_le (Heap.lt_size z) dn)
  have na : ∀ {b : Addr}, H b = none → b ≠ a := fun {b} n z => by
    rw [z, ea] at n
    cases n
  have U : Un X.fs [] H (upd (upd H dx (exd dx [(f, y)])) a (exo a C (some dx))) hp h2 := {
    keep := fun b o z n _ _ => kp b o (na n) z
    slot := fun b o z n _ _ => ⟨o.slots, kp b o (na n) z⟩
    free := fun b o z n _ => by
      rw [upd_ne (na n), upd_ne (ndx z)]
      exact n
    there := fun b o z _ => by
      by_cases hb : b = a
      · exact ⟨_, by rw [hb]; exact hx⟩
      · exact ⟨o, kp b o hb z⟩
    tups := fun b xs z => by
      rw [upd_ne (at_ne ea z exo_tup), upd_ne (ne_of_none z nH)]
      exact z
    frzs := fun b o v z => by
      rw [upd_ne (at_ne ea z exo_frz), upd_ne (ne_of_none z nH)]
      exact z
    tbls := fun b ps z => ⟨#[], by rw [upd_ne (at_ne ea z exo_tbl), upd_ne (ne_of_none z nH), z]; simp⟩ }
  refine k dx _ nH dne (I.un (t' := t2) U fun b o z => ?_)
  by_cases hb : b = a
  · subst hb
    rw [upd_same] at z
    cases z
    exact exo_ok hx
  rw [upd_ne hb] at z
  by_cases hd : b = dx
  · subst hd
    rw [upd_same] at z
    cases z
    exact exd_ok hn (relO_put (fs := []) ry fun g => True.intro)
  · rw [upd_ne hd] at z
    have ow : ∀ {c : Addr}, H c = some (.own b) → c ≠ a := fun {c} hc => at_ne ea hc exo_own
    refine (I.hok b o z).stay (fun c v hc h => kp c v ?_ h) (fun c hc => ?_) fun c xs hc => ?_
    · rcases hc with rfl | hc
      · exact hb
      · exact ow hc
    · rw [upd_ne (ow hc), upd_ne (ne_of_none hc nH)]
      exact hc
    · rw [upd_ne (at_ne ea hc exo_tup), upd_ne (ne_of_none hc nH)]
      exact hc
/-- e.f = y: a further field -/
theorem fld_next (T : OwE X.K C B newId initId tl) (I : Inv X pins σ H s) (ea : H a = some (exo a C (some dx))) (ed : H dx = some (exd dx fs)) (hl : fs.length ≤ 900) (hno : PySem.W.findIn X.K (.ref C) f = some none) (ry : RelV y u)
    (k : ∀ s2, Inv X pins σ (upd H dx (exd dx ((f, y) :: fs))) s2 → Q () s2) : wpAny (model X.prog X.w) A (setAttr (.ref a) f u) Q E s := by
  obtain ⟨t1, ho⟩ := exo_at I.hok ea
  obtain ⟨mA, hns, rel⟩ := exd_at I.hok ed
  have wi := within_of rel
  obtain ⟨hp, g, d, t, os⟩ := s
  obtain ⟨oD, _, _, hoD, _, _⟩ := hns.count wi
  refine PySem.W.set_plain I.kIn (ox := { cls := .ref C, dict := some dx, data := .fields #[.ref t1, .none, .none, .none, .bool false, .none] }) (od := some oD) ⟨ho, rfl, rfl, hoD⟩ T.sa ?_
  refine exa_next T I.kIn ho hns wi (by rw [List.length_map]; omega) hno fun h2 t2 kp hn => ?_
  have there : ∃ o, h2.get? dx = some o := by
    obtain ⟨o, _, _, z, _⟩ := hn
    exact ⟨o, z⟩
  exact k _ (I.write (t' := t2) (x := dx) (e := dx) (o := exd dx ((f, y) :: fs)) (by rw [ed]; exact True.intro) (.inl rfl) kp there (exd_ok hn (relO_put ry rel)))
/-- B.__init__(e, ..): nothing of it is told -/
theorem base_init {us : List Value} {Q : Value → Shared → Prop} (T : OwE X.K C B newId initId tl) (I : Inv X pins σ H s) (ea : H a = some (exo a C none)) (hl : us.length ≤ sizeLine) (k : ∀ s2, Inv X pins σ H s2 → Q .none s2) :
    wpAny (model X.prog X.w) A (call (.builtin initId) (.ref a :: us)) Q E s := by
  obtain ⟨c1, c2, c3, c4, c5, c6, c7, c8, c9, c10, c11, k0, k1, k2, k3, k5, hC, hT⟩ := PySem.W.excInit_of I.kIn T.ini
  obtain ⟨t1, ho⟩ := exo_at I.hok ea
  obtain ⟨hp, g, d, t, os⟩ := s
  refine wpAny_call (T.ib hT hC ho hl fun h2 t2 kp hx => ?_)
  have J := I.write (t' := t) (x := a) (e := a) (o := exo a C none) (by rw [ea]; exact True.intro) (.inl rfl) kp ⟨_, hx⟩ (exo_ok hx)
  have eu : upd H a (exo a C none) = H := by
    funext b
    by_cases hb : b = a
    · rw [hb, upd_same, ea]
    · rw [upd_ne hb]
  rw [eu] at J
  exact k _ J
end
/-! ## walks: the values of a dict, enumerate, zip -/
section
variable {X : Cx} {j : Nat} {e e2 tg : Expr} {elts : List Expr} {kk : Nat} {t : RX} {tr : RA} {apos cpos tpos p pos : Pos}
end
/-! ## regions: what is told of the heap at some addresses -/
abbrev Ads := List Addr
/-- things that change in place; instances of the class CS never do -/
def Mo (CS : Addr) : HO → Prop
  | .lst _ => True
  | .dK _ => True
  | .ins C _ _ => C ≠ CS
  | .frz _ _ => True
  | _ => False
def Out (CS : Addr) (T : Ads) (H : Hp) : Prop := ∀ b ∈ T, ∀ o, H b = some o → Mo CS o
def Dj (A B : Ads) : Prop := ∀ b ∈ A, b ∉ B
theorem Dj.symm {A B : Ads} (h : Dj A B) : Dj B A := fun b hb ha => h b ha hb
theorem Dj.nil {A : Ads} : Dj A [] := fun _ _ h => nomatch h
theorem Dj.app {A B C : Ads} (h1 : Dj A C) (h2 : Dj B C) : Dj (A ++ B) C := fun b hb => (List.mem_append.mp hb).elim (h1 b) (h2 b)
theorem Dj.left {A B C : Ads} (h : Dj (A ++ B) C) : Dj A C := fun b hb => h b (List.mem_append_left _ hb)
theorem Dj.right {A B C : Ads} (h : Dj (A ++ B) C) : Dj B C := fun b hb => h b (List.mem_append_right _ hb)
theorem Dj.app2 {A B C : Ads} (h1 : Dj A B) (h2 : Dj A C) : Dj A (B ++ C) := (Dj.app h1.symm h2.symm).symm
theorem Dj.left2 {A B C : Ads} (h : Dj A (B ++ C)) : Dj A B := h.symm.left.symm
theorem Dj.right2 {A B C : Ads} (h : Dj A (B ++ C)) : Dj A C := h.symm.right.symm
structure Rg (CS : Addr) (P : Ads → Hp → Prop) : Prop where
  live : ∀ {S H}, P S H → ∀ b ∈ S, ∃ o, H b = some o ∧ Mo CS o
  loc : ∀ {S H H' T}, P S H → Fr T H H' → Out CS T H → Dj S T → P S H'
/-- what never changes -/
structure Imm (CS : Addr) (F : Hp → Prop) : Prop where
  loc : ∀ {H H' T}, F H → Fr T H H' → Out CS T H → F H'
/-- a step: outside S all stays, S' is of S or new -/
structure Op (S S' : Ads) (H H' : Hp) : Prop where
  fr : Fr S H H'
  new : ∀ b ∈ S', b ∈ S ∨ H b = none
section
variable {CS : Addr} {P P' Q Q' R : Ads → Hp → Prop} {F G : Hp → Prop} {S S' S2 T A A' B B' : Ads} {H H' H1 H2 : Hp}
theorem Rg.out (r : Rg CS P) (h : P S H) : Out CS S H := fun b hb o e => by
  obtain ⟨u, e2, m⟩ := r.live h b hb
  rw [e] at e2
  cases e2
  exact m
theorem Rg.ex (r : Rg CS P) (h : P S H) (x : Ex H H') : P S H' := r.loc h (T := []) (.of_ex x) (fun _ h => nomatch h) .nil
theorem Rg.fresh (r : Rg CS P) (h : P S H) {b : Addr} (n : H b = none) : b ∉ S := fun hb => by
  obtain ⟨o, e, _⟩ := r.live h b hb
  rw [n] at e
  cases e
theorem Imm.ex (i : Imm CS F) (h : F H) (x : Ex H H') : F H' := i.loc h (T := []) (.of_ex x) fun _ h => nomatch h
theorem Op.refl : Op S S H H := ⟨fun _ _ _ h => h, fun _ h => .inl h⟩
theorem Op.of_ex (x : Ex H H') : Op S S H H' := ⟨.of_ex x, fun _ h => .inl h⟩
theorem Op.back (o : Op S S' H H') {b : Addr} (n : H' b = none) : H b = none ∨ b ∈ S := by
  by_cases h : b ∈ S
  · exact .inr h
  · refine .inl ?_
    cases e : H b with
    | none => rfl
    | some u => rw [o.fr b u h e] at n; cases n
theorem Op.trans (o : Op S S' H H1) (p : Op S' S2 H1 H2) : Op S S2 H H2 := by
  refine ⟨fun b u n e => p.fr b u (fun h => ?_) (o.fr b u n e), fun b hb => ?_⟩
  · rcases o.new b h with h | h
    · exact n h
    · rw [h] at e; cases e
  · rcases p.new b hb with h | h
    · exact o.new b h
    · rcases o.back h with h | h
      · exact .inr h
      · exact .inl h
/-- what lies apart is kept -/
theorem Rg.keep (r : Rg CS Q) (hq : Q B H) (out : Out CS S H) (o : Op S S' H H') (d : Dj S B) : Q B H' ∧ Dj S' B := by
  refine ⟨r.loc hq o.fr out d.symm, fun b hb h2 => ?_⟩
  rcases o.new b hb with h | h
  · exact d b h h2
  · exact r.fresh hq h h2
theorem Imm.keep (i : Imm CS F) (hf : F H) (out : Out CS S H) (o : Op S S' H H') : F H' := i.loc hf o.fr out
theorem Op.left (o : Op A A' H H') : Op (A ++ B) (A' ++ B) H H' := ⟨fun b u n e => o.fr b u (fun h => n (List.mem_append_left _ h)) e, fun b hb => by
  rcases List.mem_append.mp hb with h | h
  · exact (o.new b h).imp (List.mem_append_left _) id
  · exact .inl (List.mem_append_right _ h)⟩
theorem Op.right (o : Op B B' H H') : Op (A ++ B) (A ++ B') H H' := ⟨fun b u n e => o.fr b u (fun h => n (List.mem_append_right _ h)) e, fun b hb => by
  rcases List.mem_append.mp hb with h | h
  · exact .inl (List.mem_append_left _ h)
  · exact (o.new b h).imp (List.mem_append_right _) id⟩
/-! ### two regions side by side -/
def R2 (P Q : Ads → Hp → Prop) : Ads → Hp → Prop := fun S H => ∃ A B, S = A ++ B ∧ Dj A B ∧ P A H ∧ Q B H
theorem R2.mk (p : P A H) (q : Q B H) (d : Dj A B) : R2 P Q (A ++ B) H := ⟨A, B, rfl, d, p, q⟩
theorem Rg.and (p : Rg CS P) (q : Rg CS Q) : Rg CS (R2 P Q) := ⟨fun ⟨A, B, e, d, hp, hq⟩ b hb => by
  rw [e] at hb
  exact (List.mem_append.mp hb).elim (p.live hp b) (q.live hq b), fun ⟨A, B, e, d, hp, hq⟩ f o dj => by
  subst e
  exact ⟨A, B, rfl, d, p.loc hp f o dj.left, q.loc hq f o dj.right⟩⟩
theorem Rg.stepL (p : Rg CS P) (q : Rg CS Q) (hp : P A H) (hq : Q B H) (d : Dj A B) (o : Op A A' H H') (hp' : P' A' H') : R2 P' Q (A' ++ B) H' ∧ Op (A ++ B) (A' ++ B) H H' := by
  obtain ⟨h1, h2⟩ := q.keep hq (p.out hp) o d
  exact ⟨.mk hp' h1 h2, o.left⟩
theorem Rg.stepR (p : Rg CS P) (q : Rg CS Q) (hp : P A H) (hq : Q B H) (d : Dj A B) (o : Op B B' H H') (hq' : Q' B' H') : R2 P Q' (A ++ B') H' ∧ Op (A ++ B) (A ++ B') H H' := by
  obtain ⟨h1, h2⟩ := p.keep hp (q.out hq) o d.symm
  exact ⟨.mk h1 hq' h2.symm, o.right⟩
theorem Rg.nil : Rg CS (fun S _ => S = []) := ⟨fun h b hb => (by rw [h] at hb; cases hb), fun h _ _ _ => h⟩
/-! ### one object -/
def O1 (CS a : Addr) (o : HO) : Ads → Hp → Prop := fun S H => S = [a] ∧ H a = some o ∧ Mo CS o
theorem Rg.one {a : Addr} {o : HO} : Rg CS (O1 CS a o) := ⟨fun ⟨e, h, m⟩ b hb => by
  rw [e] at hb
  rw [List.mem_singleton.mp hb]
  exact ⟨o, h, m⟩, fun ⟨e, h, m⟩ f _ d => ⟨e, f _ _ (d _ (by rw [e]; exact .head _)) h, m⟩⟩
def I1 (CS C a : Addr) (fs : List (Str × V)) : Ads → Hp → Prop := fun S H => S = [a] ∧ (∃ dx, H a = some (.ins C dx fs)) ∧ C ≠ CS
theorem Rg.ins {C a : Addr} {fs : List (Str × V)} : Rg CS (I1 CS C a fs) := ⟨fun ⟨e, ⟨dx, h⟩, m⟩ b hb => by
  rw [e] at hb
  rw [List.mem_singleton.mp hb]
  exact ⟨_, h, m⟩, fun ⟨e, ⟨dx, h⟩, m⟩ f _ d => ⟨e, ⟨dx, f _ _ (d _ (by rw [e]; exact .head _)) h⟩, m⟩⟩
theorem op_upd {a : Addr} {o : HO} : Op [a] [a] H (upd H a o) := ⟨fun b u n e => by
  rw [upd_ne (fun z => n (by rw [z]; exact .head _))]
  exact e, fun _ h => .inl h⟩
theorem op_new {a : Addr} {o : HO} (n : H a = none) : Op [] [a] H (upd H a o) := ⟨.of_ex (Ex.put n), fun b hb => .inr (by rw [List.mem_singleton.mp hb]; exact n)⟩
theorem O1.set {a : Addr} {o o' : HO} (h : O1 CS a o S H) (m : Mo CS o') : O1 CS a o' S (upd H a o') ∧ Op S S H (upd H a o') := by
  obtain ⟨rfl, _, _⟩ := h
  exact ⟨⟨rfl, upd_same, m⟩, op_upd⟩
theorem I1.set {C a dx : Addr} {fs fs' : List (Str × V)} (h : I1 CS C a fs S H) : I1 CS C a fs' S (upd H a (.ins C dx fs')) ∧ Op S S H (upd H a (.ins C dx fs')) := by
  obtain ⟨rfl, _, m⟩ := h
  exact ⟨⟨rfl, ⟨dx, upd_same⟩, m⟩, op_upd⟩
theorem O1.new {a : Addr} {o : HO} (n : H a = none) (m : Mo CS o) : O1 CS a o [a] (upd H a o) ∧ Op [] [a] H (upd H a o) := ⟨⟨rfl, upd_same, m⟩, op_new n⟩
/-! ### many regions -/
def RgM {α : Type} (P : α → Ads → Hp → Prop) : List α → Ads → Hp → Prop
  | [] => fun S _ => S = []
  | x :: xs => R2 (P x) (RgM P xs)
theorem Rg.many {α : Type} {P : α → Ads → Hp → Prop} (p : ∀ x, Rg CS (P x)) : ∀ xs, Rg CS (RgM P xs)
  | [] => Rg.nil
  | x :: xs => (p x).and (Rg.many p xs)
theorem RgM.app {α : Type} {P : α → Ads → Hp → Prop} : ∀ {xs ys : List α} {S : Ads}, RgM P (xs ++ ys) S H → R2 (RgM P xs) (RgM P ys) S H
  | [], ys, S, h => ⟨[], S, rfl, fun _ h => (nomatch h), rfl, h⟩
  | x :: xs, ys, S, ⟨A, B, e, d, hp, hq⟩ => by
    obtain ⟨B1, B2, e2, d2, h1, h2⟩ := RgM.app hq
    subst e e2
    exact ⟨A ++ B1, B2, (List.append_assoc ..).symm, Dj.app d.right2 d2, ⟨A, B1, rfl, d.left2, hp, h1⟩, h2⟩
theorem RgM.join {α : Type} {P : α → Ads → Hp → Prop} : ∀ {xs ys : List α} {S : Ads}, R2 (RgM P xs) (RgM P ys) S H → RgM P (xs ++ ys) S H
  | [], ys, S, ⟨A, B, e, d, h1, h2⟩ => by
    have h1 : A = [] := h1
    subst h1
    rw [e]
    exact h2
  | x :: xs, ys, S, ⟨A, B, e, d, ⟨A1, A2, e2, d2, h0, h1⟩, h2⟩ => by
    subst e e2
    rw [List.append_assoc]
    exact ⟨A1, A2 ++ B, rfl, Dj.app2 d2 d.left, h0, RgM.join ⟨A2, B, rfl, d.right, h1, h2⟩⟩
/-- the thing at a place -/
theorem RgM.at {α : Type} {P : α → Ads → Hp → Prop} {xs ys : List α} {x : α} (h : RgM P (xs ++ x :: ys) S H) : ∃ A B C, S = A ++ (B ++ C) ∧ Dj A (B ++ C) ∧ Dj B C ∧ RgM P xs A H ∧ P x B H ∧ RgM P ys C H := by
  obtain ⟨A, D, e, d, h1, B, C, e2, d2, h2, h3⟩ := RgM.app h
  subst e e2
  exact ⟨A, B, C, rfl, d, d2, h1, h2, h3⟩
/-- a step of one of them -/
theorem RgM.step {α : Type} {P : α → Ads → Hp → Prop} {xs ys : List α} {x x' : α} (p : ∀ x, Rg CS (P x)) (dA : Dj A (B ++ T)) (dB : Dj B T) (h1 : RgM P xs A H) (h2 : P x B H) (h3 : RgM P ys T H) (o : Op B B' H H') (h : P x' B' H') :
    RgM P (xs ++ x' :: ys) (A ++ (B' ++ T)) H' ∧ Op (A ++ (B ++ T)) (A ++ (B' ++ T)) H H' := by
  obtain ⟨k1, o1⟩ := (p x).stepL (Rg.many p ys) h2 h3 dB o h
  have rg : Rg CS (R2 (P x) (RgM P ys)) := (p x).and (Rg.many p ys)
  have rg' : Rg CS (R2 (P x') (RgM P ys)) := (p x').and (Rg.many p ys)
  obtain ⟨k2, o2⟩ := (Rg.many p xs).stepR rg h1 ⟨B, T, rfl, dB, h2, h3⟩ dA o1 k1
  exact ⟨RgM.join k2, o2⟩
end
/-! ### facts that never change -/
section
variable {CS : Addr} {H : Hp}
theorem Imm.tup {a : Addr} {xs : List V} : Imm CS (fun H => H a = some (.tup xs)) := ⟨fun {H H' T} h f o => f _ _ (fun m => (o a m _ h : False).elim) h⟩
theorem Imm.true : Imm CS (fun _ => True) := ⟨fun _ _ _ => trivial⟩
theorem Imm.pure {p : Prop} : Imm CS (fun _ => p) := ⟨fun h _ _ => h⟩
theorem Imm.and {F G : Hp → Prop} (f : Imm CS F) (g : Imm CS G) : Imm CS (fun H => F H ∧ G H) := ⟨fun h k o => ⟨f.loc h.1 k o, g.loc h.2 k o⟩⟩
theorem Imm.ex' {α : Type} {F : α → Hp → Prop} (f : ∀ x, Imm CS (F x)) : Imm CS (fun H => ∃ x, F x H) := ⟨fun ⟨x, h⟩ k o => ⟨x, (f x).loc h k o⟩⟩
theorem Imm.all {α : Type} {F : α → Hp → Prop} (f : ∀ x, Imm CS (F x)) : Imm CS (fun H => ∀ x, F x H) := ⟨fun h k o x => (f x).loc (h x) k o⟩
theorem Imm.imp {p : Prop} {F : Hp → Prop} (f : Imm CS F) : Imm CS (fun H => p → F H) := ⟨fun h k o hp => f.loc (h hp) k o⟩
end
/-- a region's existence -/
theorem Rg.ex' {CS : Addr} {α : Type} {P : α → Ads → Hp → Prop} (p : ∀ x, Rg CS (P x)) : Rg CS (fun S H => ∃ x, P x S H) := ⟨fun ⟨x, h⟩ => (p x).live h, fun ⟨x, h⟩ f o d => ⟨x, (p x).loc h f o d⟩⟩
/-! ## several except clauses, each with or without a name -/
def setN (i : Option Nat) (σ : St) (a : Addr) : St := match i with
  | none => σ
  | some i => σ.set i (some (.ref a))
def endsN (i : Option Nat) (D : Ends) : Ends := match i with
  | none => D
  | some i => endsAs i D
theorem endsN_le {i : Option Nat} {D : Ends} : EndsLe (endsN i D) (endsN i (upD D)) := by
  cases i with
  | none => exact EndsLe.rfl
  | some i => exact ⟨fun _ _ q => q, fun _ _ q => q, fun _ _ q => q, fun _ _ q => q⟩
abbrev CL := List (Value × Option Nat × (Addr → Value → Option Addr → TS))
def wMs (K : PySem.W.Frag) (Wout : WX) (D : Ends) : CL → WX
  | [] => Wout
  | (c, i, ts) :: r => fun cls d σ H => ∃ b, PySem.W.exmOne K cls c = some b ∧ (b = true → ∀ a, H a = none → ts a cls d (endsN i D) (setN i σ a) H) ∧ (b = false → wMs K Wout D r cls d σ H)
inductive HsOk (X : Cx) : List ExceptHandler → CL → Prop
  | nil : HsOk X [] []
  | one {x : Str} {c : Value} {ts : Addr → Value → Option Addr → TS} {b₀ : Stmt} {suite : List Stmt} {np pos' : Pos} {hds : List ExceptHandler} {l : CL} (hc : Names X x c)
      (hsu : ∀ (a : Addr) (oe : Obj) (cls : Value) (d : Option Addr) (pn : List (Addr × Obj)), Zc cls d oe → (∃ vs, oe.data = .fields vs) → PSs (X.suite a ((a, oe) :: pn)) (b₀ :: suite) (ts a cls d)) (r : HsOk X hds l) :
      HsOk X (.ExceptHandler (some (.Name x np)) none (b₀ :: suite) pos' :: hds) ((c, none, ts) :: l)
  | as {x n : Str} {i : Nat} {c : Value} {ts : Addr → Value → Option Addr → TS} {b₀ : Stmt} {suite : List Stmt} {np pos' : Pos} {hds : List ExceptHandler} {l : CL} (hc : Names X x c) (hN : X.N.Nodup) (hi : X.N[i]? = some n) (hln : X.env.kindOf n = some .local)
      (hsu : ∀ (a : Addr) (oe : Obj) (cls : Value) (d : Option Addr) (pn : List (Addr × Obj)), Zc cls d oe → (∃ vs, oe.data = .fields vs) → PSs (X.suite a ((a, oe) :: pn)) (b₀ :: suite) (ts a cls d)) (r : HsOk X hds l) :
      HsOk X (.ExceptHandler (some (.Name x np)) (some n) (b₀ :: suite) pos' :: hds) ((c, some i, ts) :: l)
section
variable {X : Cx} {body : List Stmt} {h₀ : ExceptHandler} {hds : List ExceptHandler} {l : CL} {pos : Pos} {tb : WX → TS} {Wout : WX}
theorem ps_try_ms (hs : X.stack = X.env :: X.outer) (hf : X.env.frame = some X.env.locals) (tk : Takes X Wout)
    (hb : ∀ (W : WX) (pn : List (Addr × Obj)) (xe : Value → Shared → Prop), Takes (X.tr pn xe) W → PassesOwn (model X.prog X.w) X.A X.env xe → PSs (X.tr pn xe) body (tb W))
    (hh : HsOk X (h₀ :: hds) l) : PS X (.Try body (h₀ :: hds) [] [] pos) (fun D σ H => tb (wMs X.K Wout D l) D σ H) := by
  refine ⟨fun pins s σ H D I h => ?_⟩
  have ok := I.ok
  have hfr : X.A.frames = some (X.env :: X.outer) := by rw [ok.frames, hs]
  refine wpAny_Try_except ?_
  refine wpAny_mono ((hb (wMs X.K Wout D l) (X.pn ++ pins) (fun e s₁ => wpAny (model X.prog X.w) X.A (noteFrame e X.env) (fun _ s₂ => wpAny (model X.prog X.w) X.A (setFlight e none) (fun _ s₃ =>
    wpAny (model X.prog X.w) X.A (handleBy e X.env (h₀ :: hds)) (L2.SP X pins D) X.xe s₃) X.xe s₂) X.xe s₁) (fun u s' xx => ?_) PassesOwn.looking).run [] s σ H D (I.toTry _) h) (fun f s1 hsp => ?_) (fun e s1 he => he)
  · obtain ⟨a, B, sI, pins', σ', H', cls, d, rfl, J', nb, up, sky, na, os, ag, w⟩ := xx
    have J : Inv X pins σ' H' sI := J'.ofTry ok
    have sky' : Sky B (X.env :: X.outer) a (Zc cls d) X.env.locals s'.heap := by rw [← hs]; exact sky
    show wpAny (model X.prog X.w) X.A (noteFrame (.ref a) X.env) _ _ _
    refine Sky.land Zc.steady hfr hf sky' fun h3 fl3 up3 => ?_
    have J3 : Inv X pins σ' H' { s' with heap := h3 } := J.landed nb fl3.1 (up.trans up3) os ag
    obtain ⟨oe3, vs3, he3, hz3, hd3⟩ := fl3.there
    have notFr : ∀ {h : Heap} {o : Obj} {vs : Array Value}, h.FunFrames B (X.env :: X.outer) → h.get? a = some o → o.data = .fields vs → a ∉ frs (X.env :: X.outer) := fun {h o vs} ff e dd hm => by
      obtain ⟨_, o', e', hnf⟩ := ff.mem hm
      rw [e] at e'; cases e'
      exact hnf _ dd
    have nfr := notFr fl3.2.2.1 he3 hd3
    have nL : a ≠ X.env.locals := fun z => nfr (List.mem_filterMap.mpr ⟨X.env, List.mem_cons_self, by rw [hf, z]⟩)
    have nF : a ∉ X.fs := fun hm => by
      obtain ⟨e, he, q⟩ := List.mem_filterMap.mp hm
      exact nfr (List.mem_filterMap.mpr ⟨e, List.mem_cons_of_mem _ he, q⟩)
    have S3 := J3.suite he3 hd3 na nL nF
    have LT : PySem.W.Looks (model X.prog X.w) h3 (typeOf (.ref a)) cls := fun A Q E s k q => wpAny_typeOf_ref (k _ _ he3) (by rw [hz3.1]; exact q)
    have test : ∀ {x : Str} {c : Value} {np : Pos} {Q : Value → Shared → Prop} {E : Value → Shared → Prop}, Names X x c → Q c { s' with heap := h3 } → wpAny (model X.prog X.w) (X.A.mark (some (.ref a))) (eval (.Name x np) X.env) Q E { s' with heap := h3 } := fun {x c np Q E} hc q => by
      obtain ⟨hg, hdbg, hm | ⟨hm, hv, hnn⟩⟩ := hc
      · exact ld_glob (X := X.suite a ((a, oe3) :: (X.pn ++ pins))) S3 hg hm q hdbg
      · exact ld_blt (X := X.suite a ((a, oe3) :: (X.pn ++ pins))) S3 hg hm hv q hnn hdbg
    have go : ∀ {hds' : List ExceptHandler} {l' : CL}, HsOk X hds' l' → wMs X.K Wout D l' cls d σ' H' →
        wpAny (model X.prog X.w) X.A (handleBy (.ref a) X.env hds') (L2.SP X pins D) X.xe { s' with heap := h3 } := by
      intro hds' l' hk
      induction hk with
      | nil =>
        intro w
        refine wpAny_handleBy_nil ?_
        obtain ⟨k1, k2, k3, oe, vs, T, oT, ts', he, hz, hd, h1, hr⟩ := id fl3
        unfold PySem.passOn
        refine wpAny_bind (wpAny_field he hd h1 ?_)
        rw [if_neg (show ¬ ((Value.ref T == Value.none) = true) from by simp)]
        have fin : wpAny (model X.prog X.w) X.A (setFlight (.ref a) X.env.frame) (fun _ s4 => wpAny (model X.prog X.w) X.A (throw (.ref a) : Sem Flow) (L2.SP X pins D) X.xe s4) X.xe { s' with heap := h3 } := by
          rw [hf]
          refine HandSPX.setFlight_upZ fl3 fun h4 hh4 up4 => wpAny_throw (tk _ _ ?_)
          exact ⟨a, B, sI, pins, σ', H', cls, d, rfl, J, nb, (up.trans up3).trans up4, .inr (.inr (by rw [hs]; exact hh4)), na, os, ag, w⟩
        first
          | exact wpAny_bind (wpAny_pure (wpAny_bind fin))
          | exact wpAny_bind fin
      | @one x c ts b₀ suite np pos' hds2 l2 hc hsu r ih =>
        intro w
        obtain ⟨b, hb1, hyes, hno⟩ := w
        refine wpAny_handleBy_cons (codeAny_handlers_test ?_) (by intro q; cases q)
        have LM := PySem.W.exm_one (M := model X.prog X.w) (J3.kIn) LT hb1
        refine test hc (LM.here ?_)
        cases b with
        | true =>
          refine codeAny_handlers_suite ?_
          refine HandSPX.lands_againZ fl3 fun h4 fl4 up4 => ?_
          have J4 : Inv X pins σ' H' { s' with heap := h4 } := J.landed nb fl4.1 ((up.trans up3).trans up4) os ag
          obtain ⟨oe4, vs4, he4, hz4, hd4⟩ := fl4.there
          have S4 := J4.suite he4 hd4 na nL nF
          refine wpAny_mono ((hsu a oe4 cls d (X.pn ++ pins) hz4 ⟨_, hd4⟩).run [] _ _ H' _ S4 (hyes rfl a na)) (fun f s6 hsp => ?_) (fun _ _ z => False.elim z)
          cases f with
          | next =>
            obtain ⟨σ6, H6, S6, q6⟩ := hsp
            exact ⟨_, _, S6.unsuite ok, q6⟩
          | brk =>
            obtain ⟨σ6, H6, S6, q6⟩ := hsp
            exact ⟨_, _, S6.unsuite ok, q6⟩
          | cont =>
            obtain ⟨σ6, H6, S6, q6⟩ := hsp
            exact ⟨_, _, S6.unsuite ok, q6⟩
          | ret u =>
            obtain ⟨v6, σ6, H6, S6, r6, q6⟩ := hsp
            exact ⟨_, _, _, S6.unsuite ok, r6, q6⟩
        | false =>
          show wpAny _ X.A (handleBy (.ref a) X.env hds2) _ _ _
          exact ih (hno rfl)
      | @as x n i c ts b₀ suite np pos' hds2 l2 hc hN hi hln hsu r ih =>
        intro w
        obtain ⟨b, hb1, hyes, hno⟩ := w
        have hloc : Loc X.env.scope n := .inl hln
        refine wpAny_handleBy_cons (codeAny_handlers_test ?_) (by intro q; cases q)
        have LM := PySem.W.exm_one (M := model X.prog X.w) (J3.kIn) LT hb1
        refine test hc (LM.here ?_)
        cases b with
        | true =>
          refine codeAny_handlers_suite_as ?_
          refine HandSPX.lands_againZ fl3 fun h4 fl4 up4 => ?_
          have J4 : Inv X pins σ' H' { s' with heap := h4 } := J.landed nb fl4.1 ((up.trans up3).trans up4) os ag
          obtain ⟨oe4, vs4, he4, hz4, hd4⟩ := fl4.there
          have S4 := J4.suite he4 hd4 na nL nF
          refine store_ok (X := X.suite a ((a, oe4) :: (X.pn ++ pins))) (v := .ref a) S4 hN hi hloc rfl (fun s5 S5 => ?_) (.inr hln)
          refine wpAny_mono ((hsu a oe4 cls d (X.pn ++ pins) hz4 ⟨_, hd4⟩).run [] s5 _ H' _ S5 (hyes rfl a na)) (fun f s6 hsp => ?_) (fun _ _ z => False.elim z)
          have end_ : ∀ {σ6 : St} {H6 : Hp} {Q : Shared → Prop}, Inv (X.suite a ((a, oe4) :: (X.pn ++ pins))) [] σ6 H6 s6 → (∀ s7, Inv X pins (σ6.set i none) H6 s7 → Q s7) →
              wpAny (model X.prog X.w) X.A (do bindName X.env n .none; unbindBehindTheSuite X.env n pos') (fun _ s7 => Q s7) X.xe s6 := fun {σ6 H6 Q} S6 hq => gone_ok (S6.unsuite ok) hN hi hln hq
          cases f with
          | next =>
            obtain ⟨σ6, H6, S6, q6⟩ := hsp
            exact end_ S6 fun s7 J7 => ⟨_, _, J7, q6⟩
          | brk =>
            obtain ⟨σ6, H6, S6, q6⟩ := hsp
            exact end_ S6 fun s7 J7 => ⟨_, _, J7, q6⟩
          | cont =>
            obtain ⟨σ6, H6, S6, q6⟩ := hsp
            exact end_ S6 fun s7 J7 => ⟨_, _, J7, q6⟩
          | ret u =>
            obtain ⟨v6, σ6, H6, S6, r6, q6⟩ := hsp
            exact end_ S6 fun s7 J7 => ⟨_, _, _, J7, r6, q6⟩
        | false =>
          show wpAny _ X.A (handleBy (.ref a) X.env hds2) _ _ _
          exact ih (hno rfl)
    exact go hh w
  · cases f with
    | next =>
      obtain ⟨σ', H', J', q⟩ := hsp
      exact wpAny_execs_nil ⟨σ', H', J'.ofTry ok, q⟩
    | brk =>
      obtain ⟨σ', H', J', q⟩ := hsp
      exact ⟨σ', H', J'.ofTry ok, q⟩
    | cont =>
      obtain ⟨σ', H', J', q⟩ := hsp
      exact ⟨σ', H', J'.ofTry ok, q⟩
    | ret u =>
      obtain ⟨v, σ', H', J', r, q⟩ := hsp
      exact ⟨v, σ', H', J'.ofTry ok, r, q⟩
end
/-- the clauses as they are written: class, slot, suite -/
abbrev CW := List (Value × Option Nat × List Stmt)
def wishM (X : Cx) (W : WX) (D : Ends) : CW → WX
  | [] => W
  | (c, i, sts) :: r => fun cls d σ H => ∃ b, PySem.W.exmOne X.K cls c = some b ∧ (b = true → ∀ a, Suite X a cls d sts (endsN i D) (setN i σ a) H) ∧ (b = false → wishM X W D r cls d σ H)
def tS3 (X : Cx) (p : Value × Option Nat × List Stmt) : Value × Option Nat × (Addr → Value → Option Addr → TS) := (p.1, p.2.1, tSuite X p.2.2)
section
variable {X : Cx} {j k : Nat} {W : WX} {D : Ends} {σ : St} {H : Hp} {body : List Stmt} {h₀ : ExceptHandler} {hds : List ExceptHandler} {pos : Pos}
theorem wishM_up (cn : Cn X W k) {cls : Value} {d : Option Addr} {σ : St} {H2 H3 : Hp} (x3 : Ex H3 H2) : ∀ {l : CW}, wishM X W D l cls d σ H3 → wMs X.K W (upD D) (l.map (tS3 X)) cls d σ H2
  | [], w => cn.wu _ _ _ _ _ w x3
  | (c, i, sts) :: r, ⟨b, e, y, no⟩ => ⟨b, e, fun hb a _ => ⟨H3, _, x3, y hb a, endsN_le⟩, fun hb => wishM_up cn x3 (no hb)⟩
abbrev HL := List (Addr × Option Nat × RH)
/-- what the clauses read, one after the other -/
def hdM (K : PySem.W.Frag) (D : Ends) (W : WX) : HL → WX
  | [] => W
  | (C, i, zh) :: r => fun cls d σ H => ∃ b, PySem.W.exmOne K cls (.ref C) = some b ∧ (b = true → ∀ a, zh a cls d (endsN i D) noW (setN i σ a) H) ∧ (b = false → hdM K D W r cls d σ H)
def zTryM (K : PySem.W.Frag) (l : HL) (zb : RS) : RS := fun D W σ H => zb D (hdM K D W l) σ H
inductive HK (X : Cx) (j : Nat) : List ExceptHandler → HL → CW → Prop
  | nil : HK X j [] [] []
  | one {x : Str} {C : Addr} {zh : RH} {b0 : Stmt} {suite : List Stmt} {np pos' : Pos} {hds : List ExceptHandler} {l : HL} {q : CW} (hx : X.mg x = some (.ref C)) (hh : SH X j zh (b0 :: suite)) (r : HK X j hds l q) (hg : Gl X x := by rfl) (hdb : (x == ("__debug__" : Str)) = false := by decide) :
      HK X j (.ExceptHandler (some (.Name x np)) none (b0 :: suite) pos' :: hds) ((C, none, zh) :: l) ((.ref C, none, b0 :: suite) :: q)
  | as {x n : Str} {i : Nat} {C : Addr} {zh : RH} {b0 : Stmt} {suite : List Stmt} {np pos' : Pos} {hds : List ExceptHandler} {l : HL} {q : CW} (hN : X.N.Nodup) (hi : X.N[i]? = some n) (hx : X.mg x = some (.ref C)) (hh : SH X j zh (b0 :: suite)) (r : HK X j hds l q) (hg : Gl X x := by rfl) (hln : X.env.kindOf n = some .local := by rfl) (hdb : (x == ("__debug__" : Str)) = false := by decide) :
      HK X j (.ExceptHandler (some (.Name x np)) (some n) (b0 :: suite) pos' :: hds) ((C, some i, zh) :: l) ((.ref C, some i, b0 :: suite) :: q)
theorem HK.ok {hds : List ExceptHandler} {l : HL} {q : CW} (h : HK X j hds l q) : HsOk X hds (q.map (tS3 X)) := by
  induction h with
  | nil => exact .nil
  | one hx hh r hg hdb ih => exact .one ⟨hg, hdb, .inl hx⟩ (fun a oe cls d pn hz hf => ⟨fun pins s σ H1 D1 I ⟨H, D, x, w, k⟩ => thn (w oe pn hz hf H1 x pins s I) fun u s' q => SP.le k q⟩) ih
  | as hN hi hx hh r hg hln hdb ih => exact .as ⟨hg, hdb, .inl hx⟩ hN hi hln (fun a oe cls d pn hz hf => ⟨fun pins s σ H1 D1 I ⟨H, D, x, w, k⟩ => thn (w oe pn hz hf H1 x pins s I) fun u s' q => SP.le k q⟩) ih
theorem HK.wish {hds : List ExceptHandler} {l : HL} {q : CW} (cn : Cn X (upW W) j) (h : HK X j hds l q) {cls : Value} {d : Option Addr} {σ : St} {H : Hp} : hdM X.K D W l cls d σ H → wishM X (upW W) D q cls d σ H := by
  induction h with
  | nil => exact fun w => ⟨H, Ex.refl _, w⟩
  | one hx hh r hg hdb ih => exact fun ⟨b, e, y, no⟩ => ⟨b, e, fun hb a oe pn hz hf => (hh.run a oe cls d pn hz hf).run (cn.hot _ _) PassesOwn.never (y hb a), fun hb => ih (no hb)⟩
  | as hN hi hx hh r hg hln hdb ih => exact fun ⟨b, e, y, no⟩ => ⟨b, e, fun hb a oe pn hz hf => (hh.run a oe cls d pn hz hf).run (cn.hot _ _) PassesOwn.never (y hb a), fun hb => ih (no hb)⟩
theorem ws_tryM {q : CW} (cn : Cn X W k) (hk : HsOk X (h₀ :: hds) (q.map (tS3 X))) (h : ∀ pn xe, Cn (X.tr pn xe) (upW (wishM X W D q)) k → PassesOwn (model X.prog X.w) X.A X.env xe → WSs (X.tr pn xe) body D σ H)
    (hs : X.stack = X.env :: X.outer := by rfl) (hf : X.env.frame = some X.env.locals := by rfl) : WS X (.Try body (h₀ :: hds) [] [] pos) D σ H :=
  .of (ps_try_ms hs hf cn.tk (tb := tBody X body) (fun W1 pn xe tk po => ⟨fun pins s σ H1 D1 I ⟨H, D, x, w, k⟩ => thn (w pn xe tk po H1 x pins s I) fun u s' q => SP.le k q⟩) hk)
    fun H1 x1 => ⟨H, D, x1, fun pn xe tk po => h pn xe (cn.tr (tk.imp fun cls d σ H2 ⟨H3, x3, w⟩ => wishM_up cn x3 w) fun c d σ H ⟨H2, x2, H3, x3, q⟩ => ⟨H3, x3.trans x2, q⟩) po, EndsLe.rfl⟩
theorem z_tryM {zb : RS} {l : HL} {q : CW} (hk : HK X j (h₀ :: hds) l q) (hb : ∀ pn xe, SSs (X.tr pn xe) j zb body) (hs : X.stack = X.env :: X.outer := by rfl) (hf : X.env.frame = some X.env.locals := by rfl) :
    SS X j (zTryM X.K l zb) (.Try body (h₀ :: hds) [] [] pos) := ⟨fun {W} cn o {D σ H} h => by
  refine ws_tryM (W := upW W) (q := q) cn hk.ok (fun pn xe c2 po => ?_) hs hf
  exact (hb pn xe).run (W := hdM X.K D W l) ⟨c2.room, c2.un, c2.gd, c2.tk.imp fun cls d σ H ⟨H', x', w⟩ => ⟨H', x', hk.wish cn w⟩, fun c d σ H H' ⟨H2, x2, q⟩ x => ⟨H2, x2.trans x, q⟩⟩ po h⟩
end
/-! ## isinstance of an error that the suite holds, with or without fields -/
section
open PySem.W PySem.Calls
variable {prog : Program} {w : World} {A : Around} {E : Value → Shared → Prop} {s : Shared} {K : Frag} {x D : Addr} {ox : Obj} {od : Option Obj}
theorem findObj_dat {C : Addr} {name : Str} {a g : Value} (hc : (clsIn K C).isSome = true) (ha : findIn K (.ref C) name = some (some a)) (hg : specialIn K a "__get__" = some (some g)) (ht : takesIn K a = some true) : findObj K C od name = some (.bind g a) := by
  obtain ⟨cd, hc⟩ := Option.isSome_iff_exists.mp hc
  unfold findObj
  rw [hc, Option.bind_some, ha, Option.bind_some]
  simp [hg, ht]
theorem kin_clsE {Q : Option Value → Shared → Prop} (T : ExcC K D) (X : K.In s.heap) (I : InstAt s.heap x ox D od) (h : Q (some (.ref D)) { s with toks := s.toks + 1 }) : wpAny (model prog w) A (getAttr? (.ref x) "__class__") Q E s := by
  have hf : findObj K D od "__class__" = some (.bind (.builtin "getset_descriptor.__get__") (.builtin "object.__class__")) := findObj_dat (by obtain ⟨cd, hc, _⟩ := any_some T.hd; rw [hc]; rfl) T.ha T.hn T.ht
  obtain ⟨hp, g, d, t, os⟩ := s
  have L0 := I.type (M := model prog w)
  have L1 := looks_findIn (M := model prog w) X T.hg
  have L2 := looks_findIn (M := model prog w) X T.hk
  have L3 := looks_find (M := model prog w) X I hf
  have sub : Looks (model prog w) hp (isInstance (.ref x) (.type "BaseException")) true := L0.andThen (looks_subIn X T.hs)
  have hx0 : (false && onTheHeap (Value.builtin "BaseException.__getattribute__")) = false := rfl
  have hx2 : (Value.builtin "BaseException.__getattribute__" == Value.builtin "object.__getattribute__") = false := by decide +kernel
  have hx1 : (onTheHeap (Value.ref D) && Value.builtin "BaseException.__getattribute__" == Value.builtin "object.__getattribute__") = false := by rw [hx2]; rfl
  unfold getAttr? getAttrBy? getAttrBy
  refine wpAny_bind (wpAny_mkText (wpAny_bind (wpAny_attempt (wpAny_holding (wpAny_bind (L0.at (wpAny_bind (L1.at ?_))))))))
  show wpAny _ _ (if (onTheHeap (Value.ref D) && Value.builtin "BaseException.__getattribute__" == Value.builtin "object.__getattribute__") = true then _ else _) _ _ _
  rw [hx1, if_neg Bool.false_ne_true]
  unfold getAttrByItsOwn hookBefore
  refine wpAny_bind ?_
  rw [if_pos (show onTheHeap (Value.ref D) = true from rfl)]
  refine L2.at ?_
  refine wpAny_bind (wpAny_attempt (wpAny_holding ?_))
  unfold callGetattribute
  rw [hx0, if_neg Bool.false_ne_true]
  unfold boundAndCalled
  rw [PySem.F.excAttr_ValueError.ga.bind (.ref x)]
  refine wpAny_bind (wpAny_pure ?_)
  show wpAny _ _ (call (.builtin "BaseException.__getattribute__") [.ref x, .str "__class__" t]) _ _ _
  refine wpAny_call (codeAny_call_builtin PySem.F.excAttr_ValueError.ga.plain PySem.F.entry_bexc_ga ?_)
  refine @check_slot (model prog w) _ _ ⟨hp, g, d, t + 1, os⟩ "BaseException.__getattribute__" "BaseException" "__getattribute__" (.ref x) [.str "__class__" t] [] _ (by decide +kernel) (by decide +kernel) sub (PySem.F.args_bexc_ga (.ref x) (.str "__class__" t)) ?_
  unfold Builtin.«object.__getattribute__»
  refine wpAny_bind (wpAny_of_eq (a := ((Value.ref x : Value), [Value.str "__class__" t])) (by first | rfl | (simp only [slotArgs]; rfl)) ?_)
  refine wpAny_bind (wpAny_pure (wpAny_bind (L0.at (wpAny_bind (L3.at ?_)))))
  show wpAny _ _ (holding [Value.builtin "object.__class__"] (call (.builtin "getset_descriptor.__get__") [.builtin "object.__class__", .ref x, .ref D]) >>= ret) _ _ _
  refine wpAny_bind (wpAny_holding (wpAny_call (class_get (s := ⟨hp, g, d, t + 1, os⟩) (ox := ox) (od := od) X I T.hm ?_)))
  refine wpAny_pure ?_
  show wpAny _ _ (handedOut (.ref D)) _ _ _
  rw [handedOut_of (v := .ref D) rfl]
  first
    | exact wpAny_pure (wpAny_pure h)
    | exact wpAny_pure h
    | exact wpAny_pure (wpAny_bind (wpAny_pure (wpAny_pure h)))
theorem kitx_clsE (T : ExcC K D) : KitX K (.ref x) (.ref D) (fun h => InstAt h x ox D od) where
  ty := fun _ _ _ I => I.type
  it := fun _ _ X _ => by
    obtain ⟨cdD, hcD, _⟩ := any_some T.hd
    unfold clsIn at hcD
    split at hcD
    · rename_i c' d' cd' sl' ho
      intro A' Q' E' s' k q
      unfold isType loadHead
      exact wpAny_bind (wpAny_loadPart (k _ _ (X _ _ ho)) (wpAny_pure q))
    · cases hcD
  ne := fun h tp dd its n sl X htp => by
    obtain ⟨cdD, hcD, _⟩ := any_some T.hd
    refine Bool.eq_false_iff.mpr fun q => ?_
    have e : D = tp := Value.ref.inj (beq_iff_eq.mp q)
    subst e
    unfold clsIn at hcD
    split at hcD
    · rename_i c' d' cd' sl' ho
      have z := (X _ _ ho).symm.trans htp
      cases z
    · cases hcD
  ca := fun X I k => kin_clsE T X I k
end
/-- the error's fields stand where its dict is -/
def XdAt (d : Option Addr) (H : Hp) : Prop := d = none ∨ ∃ dd fs, d = some dd ∧ H dd = some (.xd fs)
theorem XdAt.ex {d : Option Addr} {H H1 : Hp} (x : Ex H H1) (h : XdAt d H) : XdAt d H1 := h.imp id fun ⟨dd, fs, e, z⟩ => ⟨dd, fs, e, x _ _ z⟩
section
variable {X : Cx} {j : Nat} {W : WX} {a : Addr} {oe : Obj} {cls : Value} {d : Option Addr} {pn : List (Addr × Obj)}
theorem insE_of {pins : List (Addr × Obj)} {σ : St} {H : Hp} {s : Shared} {E : Addr} (I : Inv (X.suite a ((a, oe) :: pn)) pins σ H s) (hz : Zc (.ref E) d oe) (hf : ∃ vs, oe.data = .fields vs) (hd : XdAt d H) : ∃ od, PySem.W.InstAt s.heap a oe E od := by
  obtain ⟨hget, _⟩ := I.pin (a, oe) (List.mem_append.mpr (.inl List.mem_cons_self))
  obtain ⟨vs, hv⟩ := hf
  have nc : PySem.W.notCls oe = true := by unfold PySem.W.notCls; rw [hv] <;> rfl
  rcases hd with rfl | ⟨dd, fs, rfl, e⟩
  · exact ⟨none, hget, hz.1, nc, by rw [hz.2]; exact trivial⟩
  · have hx : ObjOk X.prog X.w H s.heap dd (.xd fs) := I.hok dd _ e
    obtain ⟨mA, hns, hr⟩ := hx
    obtain ⟨od, ho, hl⟩ := lookIn_ns hns
    exact ⟨some od, hget, hz.1, nc, by rw [hz.2]; exact ho⟩
def cIsE2 (K : PySem.W.Frag) (a : Addr) (cls : Value) (d : Option Addr) : RC := c2 fun x y H Q => ∃ (E : Addr) (cv : Value) (b : Bool), cls = .ref E ∧ ExcC K E ∧ x = .ref a ∧ ClsV y cv ∧ PySem.W.kitOne K (.ref E) cv = some b ∧ XdAt d H ∧ Q (.bl b) H
theorem c_isE2 (hz : Zc cls d oe) (hf : ∃ vs, oe.data = .fields vs) : SC (X.suite a ((a, oe) :: pn)) (.builtin "isinstance") (cIsE2 X.K a cls d) := sc2 fun x y H Q ⟨E, cv, b, e0, T, e1, hc, hk, hd, q⟩ => by
  subst e0 e1
  refine .of (r := fun xs H1 Q1 => xs = [.ref a, y] ∧ XdAt d H1 ∧ Q1 (.bl b) H1) (fun pins s σ H1 xs us Q1 I r ⟨ex, hd1, q1⟩ => ?_) fun H1 x1 => ⟨rfl, hd.ex x1, H, x1, q⟩
  subst ex
  obtain ⟨u1, u2, rfl, r1, r2⟩ := vals2 r
  cases (show u1 = Value.ref a from r1)
  have e2 := hc.eq r2
  subst e2
  obtain ⟨od, J⟩ := insE_of I hz hf hd1
  exact PySem.W.kia_one (kitx_clsE T) I.kIn J hk (fun z => nomatch z) fun tk => ⟨.bl b, H1, I.tok tk, rfl, q1⟩
/-- e.f in the suite -/
def rXf (K : PySem.W.Frag) (a : Addr) (cls : Value) (d : Option Addr) (f : Str) (t : RX) : RX := fun σ H Q W => t σ H (fun x H1 => x = .ref a ∧ ∃ (C dd : Addr) (fs : List (Str × V)) (v : V), cls = .ref C ∧ XfC K C ∧ PySem.W.findIn K (.ref C) f = some none ∧ d = some dd ∧ H1 dd = some (.xd fs) ∧ fs.lookup f = some v ∧ Q v H1) W
theorem s_xf {t : RX} {f : Str} {e : Expr} {pos : Pos} (hz : Zc cls d oe) (hf : ∃ vs, oe.data = .fields vs) (h : SX (X.suite a ((a, oe) :: pn)) j t e) (hb : attributeBase e f X.env (eval e X.env) = eval e X.env := by rfl) : SX (X.suite a ((a, oe) :: pn)) j (rXf X.K a cls d f t) (.Attribute e f pos) := ⟨fun {W} cn σ H Q q H1 x pins s I => by
  refine attr_of hb (thn (h.run cn q H1 x pins s I) fun u s1 hh => ?_)
  obtain ⟨y, H2, I2, ry, H3, x3, ey, C, dd, fs, v, ec, T, hno, ed, ea, l, q2⟩ := hh
  subst ey
  obtain rfl : u = Value.ref a := ry
  subst ec
  obtain ⟨ha, _⟩ := I2.pin (a, oe) (List.mem_append_left _ List.mem_cons_self)
  obtain ⟨vs, hv⟩ := hf
  have hx : ObjOk X.prog X.w H2 s1.heap dd (.xd fs) := I2.hok dd _ (x3 _ _ ea)
  obtain ⟨mA, hns, hr⟩ := hx
  obtain ⟨od, ho, hl⟩ := lookIn_ns hns
  obtain ⟨u, hu, ru⟩ := RelO.some_of (v := v) (o := mA f) (by rw [← l]; exact hr f)
  have J : PySem.W.InstAt s1.heap a oe C (some od) := ⟨ha, hz.1, by unfold PySem.W.notCls; rw [hv] <;> rfl, by rw [hz.2, ed]; exact ho⟩
  exact HandSPX.exc_get I2.kIn J T.ga T.gg T.exC (PySem.W.findObj_own T.hdC hno rfl (by rw [hl, hu])) (handed_of ru) ⟨v, H2, I2.tok _, ru, H3, x3, q2⟩⟩
end
/-! ## own errors with own __init__: readings -/
/-- B.__init__(self, ..) -/
def rBI (C : Addr) (t : RA) : RX := fun σ H Q W => t σ H (fun vs H1 => ∃ a ws, vs = .ref a :: ws ∧ ws.length ≤ 1000 ∧ H1 a = some (exo a C none) ∧ Q .non H1) W
/-- self.f = e -/
def zXFld (C : Addr) (f : Str) (to te : RX) : RS := fun D W σ H => te σ H (fun y H1 => to σ H1 (fun x H2 => ∃ a, x = .ref a ∧
  ((H2 a = some (exo a C none) ∧ ∀ dx, H2 dx = none → dx ≠ a → D.nx σ (upd (upd H2 dx (exd dx [(f, y)])) a (exo a C (some dx)))) ∨
    ∃ dx fs, H2 a = some (exo a C (some dx)) ∧ H2 dx = some (exd dx fs) ∧ fs.length ≤ 900 ∧ D.nx σ (upd H2 dx (exd dx ((f, y) :: fs))))) W) W
/-- raise C(..), C's own __init__ keeping sp -/
def xMk (C : Addr) (sp : Sp) (dvs : List V) (E : XK) : List V → Hp → Prop := fun vs H1 => vs.length ≤ 1000 ∧ ∀ a, H1 a = none → sp (.ref a :: (vs ++ dvs)) (upd H1 a (exo a C none))
  (fun v H2 => v = .non ∧ ∃ d fs, H2 a = some (exo a C (some d)) ∧ H2 d = some (exd d fs) ∧ E (.ref C) (some d) (upd (del H2 a) d (.xd fs))) (fun _ _ _ => False)
def zRaiseO (C : Addr) (sp : Sp) (dvs : List V) (t : RA) : RS := fun D W σ H => t σ H (xMk C sp dvs fun c d H' => W c d σ H') W
theorem Ex.del {H H1 : Hp} (x : Ex H H1) (a : Addr) : Ex (del H a) (del H1 a) := fun b o h => by
  by_cases e : b = a
  · rw [e, del_same] at h
    cases h
  · rw [del_ne e] at h ⊢
    exact x b o h
section
variable {X : Cx} {j k : Nat} {W : WX} {σ : St} {H : Hp} {e o : Expr} {es : List Expr} {tr : RA} {to t : RX} {C S : Addr} {B newId initId : String} {tl : List Value} {n f : Str} {p p1 p2 pos pos' : Pos} {pl : Sem Bool}
theorem s_biT {nB : Str} (T : OwE X.K C B newId initId tl) (hg : Gl X nB) (hm : X.mg nB = none) (hbt : bootBuiltins nB = some (.type B)) (tyB : typeOf (.type B) = pure (.type "type")) (hst : Manifest.isStub B = false)
    (vV : PySem.W.findCls X.K (.type B) (.type "type") "__init__" = some (.val (.builtin initId))) (hhi : PySem.W.handedIn (.builtin initId) = true) (ha : SA X j tr (e :: es)) (hnn : nB ≠ "__name__" := by decide) (hdb : (nB == ("__debug__" : Str)) = false := by decide)
    (hc : eval (.Call (.Attribute (.Name nB p1) "__init__" p2) (e :: es) [] pos) X.env = (do
      let ov ← eval (.Name nB p1) X.env
      standAt p2.atName
      let (f, first) ← holding [ov] (getMethod ov "__init__" pl)
      callWith pos f first (backTo pos (starEach (e :: es) X.env)) (backToKw pos (keywordEach [] X.env))) := by rfl)
    (he : starEach (e :: es) X.env = (false, eval e X.env) :: starEach es X.env := by rfl) (hpl : (backTo pos (starEach es X.env)).any (·.1) = false := by rfl) :
    SX X j (rBI C tr) (.Call (.Attribute (.Name nB p1) "__init__" p2) (e :: es) [] pos) := ⟨fun {W} cn σ H Q q H1 x pins s I => by
  refine PySem.W.methodCall_KW (ld_blt I hg hm hbt ?_ hnn hdb) hc
  obtain ⟨m, fr⟩ := I.fr
  refine PySem.W.method_type fr I.ok.mod.kin tyB hst vV hhi ?_
  show wpAny _ _ (callWith pos (Value.builtin initId) [] (backTo pos (starEach (e :: es) X.env)) []) _ _ _
  refine PyProof.Rows.callWith_method1 (thn (ha.run cn q H1 x pos pins _ (I.tok _)) fun us s1 ⟨vs, H2, I2, r2, H3, x3, a, ws, ev, hl, ea, q2⟩ => ?_) he hpl
  subst ev
  cases r2 with
  | @cons _ u0 _ ur ra rw' =>
    obtain rfl : u0 = Value.ref a := ra
    have hlen : ur.length ≤ sizeLine := by
      rw [← Paired.length rw', sizeLine_eq]
      omega
    exact base_init T I2 (x3 _ _ ea) hlen fun s' J => ⟨.non, H2, J, rfl, H3, x3, q2⟩⟩
theorem s_biO {nS : Str} (T : OwE X.K C B newId initId tl) (hg : Gl X nS) (hm : X.mg nS = some (.ref S)) (hga : PySem.W.specialIn X.K (.ref S) "__getattribute__" = some (some (.builtin "type.__getattribute__"))) (hrd : PySem.W.readsIn X.K S (.type "type") = true)
    (vV : PySem.W.findCls X.K (.ref S) (.type "type") "__init__" = some (.val (.builtin initId))) (hhi : PySem.W.handedIn (.builtin initId) = true) (ha : SA X j tr (e :: es)) (hdb : (nS == ("__debug__" : Str)) = false := by decide)
    (hc : eval (.Call (.Attribute (.Name nS p1) "__init__" p2) (e :: es) [] pos) X.env = (do
      let ov ← eval (.Name nS p1) X.env
      standAt p2.atName
      let (f, first) ← holding [ov] (getMethod ov "__init__" pl)
      callWith pos f first (backTo pos (starEach (e :: es) X.env)) (backToKw pos (keywordEach [] X.env))) := by rfl)
    (he : starEach (e :: es) X.env = (false, eval e X.env) :: starEach es X.env := by rfl) (hpl : (backTo pos (starEach es X.env)).any (·.1) = false := by rfl) :
    SX X j (rBI C tr) (.Call (.Attribute (.Name nS p1) "__init__" p2) (e :: es) [] pos) := ⟨fun {W} cn σ H Q q H1 x pins s I => by
  refine PySem.W.methodCall_KW (ld_glob I hg hm ?_ hdb) hc
  refine PySem.W.method_cls I.kIn hga (PySem.W.cls_value I.kIn hrd vV hhi ?_)
  show wpAny _ _ (callWith pos (Value.builtin initId) [] (backTo pos (starEach (e :: es) X.env)) []) _ _ _
  refine PyProof.Rows.callWith_method1 (thn (ha.run cn q H1 x pos pins _ (I.tok _)) fun us s1 ⟨vs, H2, I2, r2, H3, x3, a, ws, ev, hl, ea, q2⟩ => ?_) he hpl
  subst ev
  cases r2 with
  | @cons _ u0 _ ur ra rw' =>
    obtain rfl : u0 = Value.ref a := ra
    have hlen : ur.length ≤ sizeLine := by
      rw [← Paired.length rw', sizeLine_eq]
      omega
    exact base_init T I2 (x3 _ _ ea) hlen fun s' J => ⟨.non, H2, J, rfl, H3, x3, q2⟩⟩
theorem z_xfld (T : OwE X.K C B newId initId tl) (hno : PySem.W.findIn X.K (.ref C) f = some none) (h : SX X j to o) (he : SX X j t e) (hs : swapsWith e (some (.Attribute o f pos')) pos.line X.env = pure false := by rfl) :
    SS X j (zXFld C f to t) (.Assign [.Attribute o f pos'] e pos) := ⟨fun {W} cn _ {D σ H} q H1 x pins s I => by
  refine plainObj_wpAny_Assign_Attribute (thn (he.run cn q H1 x pins s I) fun v s1 ⟨y, H2, I2, r2, H3, x3, q3⟩ => thn (h.run cn q3 H2 x3 pins s1 I2) fun u s2 ⟨z, H4, I4, r4, H5, x5, a, ez, q5⟩ => ?_) hs
  subst ez
  obtain rfl : u = Value.ref a := r4
  rcases q5 with ⟨ea, q5⟩ | ⟨dx, fs, ea, ed, hl, q5⟩
  · exact fld_first T I4 (x5 _ _ ea) hno r2 fun dx s' nn ne J => ⟨σ, _, J, _, (x5.set _ _).set _ _, q5 dx (x5.free nn) ne⟩
  · exact fld_next T I4 (x5 _ _ ea) (x5 _ _ ed) hl hno r2 fun s' J => ⟨σ, _, J, _, x5.set _ _, q5⟩⟩
/-- the end of C(e, ..) -/
theorem mk_endU {pins : List (Addr × Obj)} {σ : St} {H1 H2 : Hp} {hp hp2 h2 : Heap} {g1 g2 : Array GenState} {d1 d2 : Drawn} {t1 t2 : Nat} {os1 os2 : OsState} {a d : Addr} {fs : List (Str × V)} (I1 : Inv X pins σ H1 ⟨hp, g1, d1, t1, os1⟩)
    (ha : hp.objs.size ≤ a) (k : ∀ b o, hp.get? b = some o → hp2.get? b = some o) (un : Un (frs X.stack) [] (upd H1 a (exo a C none)) H2 hp2 h2) (hok : HOk X.prog X.w H2 h2) (ho : os2 = os1) (hb : AllBare g2)
    (ea : H2 a = some (exo a C (some d))) (ed : H2 d = some (exd d fs)) :
    ∃ (t0 : Addr) (G : Heap), Inv X pins σ (upd (del H2 a) d (.xd fs)) ⟨G, g2, d2, t2, os2⟩ ∧ (∀ b o, G.get? b = some o → h2.get? b = some o) ∧ G.get? a = none ∧
      h2.get? a = some ({ cls := .ref C, dict := some d, data := .fields #[.ref t0, .none, .none, .none, .bool false, .none] } : Obj) ∧ (upd (del H2 a) d (.xd fs)) a = none := by
  obtain ⟨t0, hoe⟩ := exo_at hok ea
  obtain ⟨mA, hns, rel⟩ := exd_at hok ed
  have hn : H1 a = none := I1.hok.fresh ha
  have hda : d ≠ a := fun z => by
    obtain ⟨o, es, ep, e1, e2, _⟩ := hns
    rw [z, hoe] at e1
    have z2 := Option.some.inj e1
    subst z2
    cases e2
  obtain ⟨G, g1', g2'⟩ := restrict h2 fun b => decide (b ≠ a)
  have gk : ∀ b, b ≠ a → G.get? b = h2.get? b := fun b hb => g1' b (decide_eq_true hb)
  have ge : G.get? a = none := g2' a (by simp)
  have nha : ∀ {b : Addr} {o : Obj}, hp.get? b = some o → b ≠ a := fun {b o} z => Nat.ne_of_lt (Nat.lt_of_lt_of_le (Heap.lt_size z) ha)
  have up : ∀ {b : Addr}, b ≠ a → H1 b = none → upd H1 a (exo a C none) b = none := fun {b} hb n => by rw [upd_ne hb]; exact n
  have nd : ∀ {b : Addr} {o : Obj}, hp.get? b = some o → H1 b = none → b ≠ d := fun {b o} z n e => by
    have y := un.free b o (k b o z) (up (nha z) n) (by simp)
    rw [e, ed] at y
    cases y
  have U : Un (frs X.stack) [] H1 (upd (del H2 a) d (.xd fs)) hp G := {
    keep := fun b o z n hf hx => by
      rw [gk b (nha z)]
      exact un.keep b o (k b o z) (up (nha z) n) hf hx
    slot := fun b o z n hf hx => by
      rw [gk b (nha z)]
      exact un.slot b o (k b o z) (up (nha z) n) hf hx
    free := fun b o z n hx => by
      rw [upd_ne (nd z n), del_ne (nha z)]
      exact un.free b o (k b o z) (up (nha z) n) hx
    there := fun b o z hx => by
      rw [gk b (nha z)]
      exact un.there b o (k b o z) hx
    tups := fun b xs z => by
      have y := un.tups b xs (by rw [upd_ne (ne_of_none z hn)]; exact z)
      rw [upd_ne (at_ne ed y exd_tup), del_ne (ne_of_none z hn)]
      exact y
    frzs := fun b o v z => by
      have y := un.frzs b o v (by rw [upd_ne (ne_of_none z hn)]; exact z)
      rw [upd_ne (fun e => by rw [e, ed] at y; cases y), del_ne (ne_of_none z hn)]
      exact y
    tbls := fun b ps z => by
      obtain ⟨qs, y⟩ := un.tbls b ps (by rw [upd_ne (ne_of_none z hn)]; exact z)
      exact ⟨qs, by rw [upd_ne (fun e => by rw [e, ed] at y; cases y), del_ne (ne_of_none z hn)]; exact y⟩ }
  have hok3 : HOk X.prog X.w (upd (del H2 a) d (.xd fs)) G := fun b o z => by
    by_cases hbd : b = d
    · subst hbd
      rw [upd_same] at z
      cases z
      exact ⟨mA, hns.at fun o y => (gk b hda).trans y, rel⟩
    · rw [upd_ne hbd] at z
      have hba : b ≠ a := fun e => by
        rw [e, del_same] at z
        cases z
      rw [del_ne hba] at z
      have noa : ∀ {c : Addr}, H2 c = some (.own b) → c ≠ a := fun {c} hc => at_ne ea hc exo_own
      exact (hok b o z).stay (fun c v hc y => by
          have hca : c ≠ a := by
            rcases hc with hc | hc
            · rw [hc]
              exact hba
            · exact noa hc
          rw [gk c hca]
          exact y)
        (fun c hc => by rw [upd_ne (at_ne ed hc exd_own), del_ne (noa hc)]; exact hc) (fun c xs hc => by rw [upd_ne (at_ne ed hc exd_tup), del_ne (at_ne ea hc exo_tup)]; exact hc)
  have J : Inv X pins σ (upd (del H2 a) d (.xd fs)) ⟨G, g2, d2, t2, os2⟩ := I1.call' (ch := []) ho U hok3 hb (fun b z => absurd z (by simp))
  refine ⟨t0, G, J, fun b o z => ?_, ge, hoe, ?_⟩
  · by_cases hba : b = a
    · rw [hba, ge] at z
      cases z
    · exact (gk b hba).symm.trans z
  · rw [upd_ne (Ne.symm hda), del_same]
theorem wm_oex {E : XK} {sp : Sp} {ps : List Str} {dvs : List V} {W1 : WX} (cn : Cn X W1 j) (hcm : X.calm = true) (T : OwE X.K C B newId initId tl) (hmg : X.mg n = some (.ref C)) (Cm : CalM X.prog X.w X.K X.mg X.base C "__init__" k ps dvs sp) (hkj : k + 1 ≤ j)
    (ha : WA X (e :: es) σ H (xMk C sp dvs E)) (hg : Gl X n) (hdb : (n == ("__debug__" : Str)) = false)
    (he : starEach (e :: es) X.env = (false, eval e X.env) :: starEach es X.env) (hpl : (backTo pos (starEach es X.env)).any (·.1) = false) : WM X (.Call (.Name n p) (e :: es) [] pos) σ H E := fun H0 x pins s I => by
  obtain ⟨fI, fd, ds, F, mt, hb, hd⟩ := Cm.ex
  refine wpAny_Call_Name_kw (ld_glob I hg hmg ?_ hdb)
  refine PySem.W.callWith_K (h₀ := X.base) I.ok.mod.kin T.kp (thn (ha H0 x pos pins s I) fun us s1 ⟨vs, H1, I1, r1, H3, x3, hz, q1⟩ => ⟨I1.kIn, ?_⟩) he hpl
  show wpAny _ _ (call (.ref C) us) _ _ _
  obtain ⟨c1, c2, c3, c4, c5, c6, c7, c8, c9, c10, c11, k0, k1, k2, k3, k5, hC, hT⟩ := PySem.W.excInit_of I1.kIn T.ini
  obtain ⟨hp, g, dr, tk, os⟩ := s1
  have hsz : hp.objs.size ≤ hp.objs.size + 1 := Nat.le_succ _
  have hn : H1 (hp.objs.size + 1) = none := I1.hok.fresh hsz
  have hq := q1 (hp.objs.size + 1) (x3.free hn)
  have kk : ∀ b o, hp.get? b = some o → ((hp.push (PySem.W.kdv_tup us)).push (PySem.HandSPX.excO C hp.objs.size)).get? b = some o := fun b o e => Heap.get?_push_of_some _ (Heap.get?_push_of_some _ e)
  have hget : ((hp.push (PySem.W.kdv_tup us)).push (PySem.HandSPX.excO C hp.objs.size)).get? (hp.objs.size + 1) = some (PySem.HandSPX.excO C hp.objs.size) := by heap_get
  have I2 : Inv X pins σ (upd H1 (hp.objs.size + 1) (exo (hp.objs.size + 1) C none)) ⟨(hp.push (PySem.W.kdv_tup us)).push (PySem.HandSPX.excO C hp.objs.size), g, dr, tk, os⟩ :=
    I1.laid (t' := tk) (a := hp.objs.size + 1) (o := exo (hp.objs.size + 1) C none) (h' := (hp.push (PySem.W.kdv_tup us)).push (PySem.HandSPX.excO C hp.objs.size)) kk hsz (exo_ok hget)
  have r2 : Vals (V.ref (hp.objs.size + 1) :: (vs ++ dvs)) (Value.ref (hp.objs.size + 1) :: (us ++ ds)) := .cons rfl (r1.append hd)
  have hl : (Value.ref (hp.objs.size + 1) :: us ++ ds).length = ps.length := by
    have e := r2.length
    rw [F.len _ _ _ _ hq] at e
    exact e.symm
  have hus : us.length ≤ sizeLine := by
    rw [← Paired.length r1, sizeLine_eq]
    omega
  refine wpAny_call (T.mo hT hC (PySem.W.looks_findIn I1.kIn mt.at_) (fun self => PySem.W.bind_fn I1.kIn self (beq_iff_eq.mp mt.fn)) hus
    (codeAny_mono (F.run _ X.stack _ _ ⟨Value.ref (hp.objs.size + 1) :: us, []⟩ (Value.ref (hp.objs.size + 1) :: (us ++ ds)) _ _ _ _ (((cn.mono hkj).room hcm).make C us []) (Around.gd_make cn.gd C us []) (I2.env0.make C us []) (hb _ (Value.ref (hp.objs.size + 1) :: us) I2.kIn hl) r2 (x3.set _ _) hq) fun r s' hq' => ?_))
  rcases r with er | fl
  · obtain ⟨_, _, _, _, _, _, _, _, _, _, _, _, H2, _, z⟩ := hq'
    exact z.elim
  · cases fl with
    | ret u =>
      obtain ⟨v, H2, os2, bare2, un2, hok2, rv, H4, x4, ev, d, fs, ea, ed, q2⟩ := hq'
      subst ev
      obtain ⟨h2, g2, d2, t2, os'⟩ := s'
      obtain ⟨t0, G, J, kG, ge, hoe, na⟩ := mk_endU (d2 := d2) (t2 := t2) I1 hsz kk un2 hok2 os2 bare2 (x4 _ _ ea) (x4 _ _ ed)
      exact ⟨rv, hp.objs.size + 1, _, _, ⟨G, g2, d2, t2, os'⟩, _, .ref C, some d, rfl, J, kG, ge, hoe, ⟨rfl, rfl⟩, rfl, rfl, na, rfl, bare2, raises_own T.sb T.ty, _, (x4.del _).set _ _, q2⟩
    | _ => exact hq'.elim
theorem z_raiseO {sp : Sp} {ps : List Str} {dvs : List V} (T : OwE X.K C B newId initId tl) (hmg : X.mg n = some (.ref C)) (Cm : CalM X.prog X.w X.K X.mg X.base C "__init__" k ps dvs sp) (ha : SA X j tr (e :: es)) (hkj : k + 1 ≤ j := by decide) (hg : Gl X n := by rfl) (hdb : (n == ("__debug__" : Str)) = false := by decide)
    (he : starEach (e :: es) X.env = (false, eval e X.env) :: starEach es X.env := by rfl) (hpl : (backTo pos (starEach es X.env)).any (·.1) = false := by rfl) (hc : X.calm = true := by rfl) : SS X j (zRaiseO C sp dvs tr) (.Raise (some (.Call (.Name n p) (e :: es) [] pos)) none pos') :=
  ⟨fun {W} cn _ {D σ H} q => ws_raise cn (fun H1 x pins s I => thn (wm_oex cn hc T hmg Cm hkj (ha.run cn q) hg hdb he hpl H1 x pins s I) fun u s1 ⟨a, oe, vs, sI, H', cls, d, e1, J, k1, hne, ha, hz, hd, h1, na, os, ag, r, H2, x2, q⟩ =>
    ⟨a, oe, vs, sI, H', cls, d, e1, J, k1, hne, ha, hz, hd, h1, na, os, ag, r, H2, x2, H2, Ex.refl _, q⟩) hc⟩
end
/-! ## facts of the built-in bases -/
theorem typ_KeyError : typeOf (.type "KeyError") = pure (.type "type") := by kernel_rfl
theorem stub_KeyError : Manifest.isStub "KeyError" = false := by decide +kernel
theorem hin_ValueError : PySem.W.handedIn (.builtin "ValueError.__init__") = true := by decide +kernel
theorem hin_KeyError : PySem.W.handedIn (.builtin "KeyError.__init__") = true := by decide +kernel
theorem boot_KeyError : bootBuiltins "KeyError" = some (.type "KeyError") := PyProof.Rows.Boot.«KeyError»
theorem kit_ty {K : PySem.W.Frag} {C : Addr} {U : String} {b : Bool} (h : PySem.W.kitMeta U = true) (e : PySem.W.subIn K (.ref C) (.type U) = some b) : PySem.W.kitOne K (.ref C) (.type U) = some b := by
  show (if (Value.ref C == Value.type U) = true then some true else if PySem.W.kitMeta U = true then PySem.W.subIn K (.ref C) (.type U) else none) = some b
  rw [if_neg (by simp), if_pos h]
  exact e
/-! ## what is raised, in plain words -/
theorem err2_heap {H : Hp} {a dx C : Addr} {fs : List (Str × V)} {o o2 : HO} (na : H a = none) (ne : dx ≠ a) : upd (del (upd (upd (upd (upd H a (exo a C none)) dx o) a (exo a C (some dx))) dx o2) a) dx (.xd fs) = upd H dx (.xd fs) := by
  funext b
  by_cases h1 : b = dx
  · rw [h1, upd_same, upd_same]
  · rw [upd_ne h1, upd_ne h1]
    by_cases h2 : b = a
    · rw [h2, del_same, na]
    · rw [del_ne h2, upd_ne h1, upd_ne h2, upd_ne h1, upd_ne h2]
/-! ## t == (), t a tuple of any things -/
section
variable {X : Cx}
end
/-! ## isinstance of own classes: facts -/
theorem kit_self {K : PySem.W.Frag} {C : Addr} : PySem.W.kitOne K (.ref C) (.ref C) = some true := by
  unfold PySem.W.kitOne
  rw [if_pos (beq_self_eq_true _)]
theorem kit_ref {K : PySem.W.Frag} {C D : Addr} {b : Bool} (hd : PySem.W.hasDictIn K D = true) (ht : PySem.W.typeIn K (.ref D) = some (.type "type")) (hs : PySem.W.subIn K (.ref C) (.ref D) = some b) (hn : (C == D) = false) : PySem.W.kitOne K (.ref C) (.ref D) = some b := by
  obtain ⟨cd, hc, _⟩ := PySem.W.any_some hd
  have e2 : ((PySem.W.clsIn K D).isSome && PySem.W.typeIn K (.ref D) == some (.type "type")) = true := by
    rw [hc, ht] <;> rfl
  have e1 : ¬ (Value.ref C == Value.ref D) = true := fun z => by
    obtain rfl : C = D := Value.ref.inj (beq_iff_eq.mp z)
    simp at hn
  unfold PySem.W.kitOne PySem.W.kitCls
  rw [if_neg e1]
  show (if ((PySem.W.clsIn K D).isSome && PySem.W.typeIn K (.ref D) == some (.type "type")) = true then PySem.W.subIn K (.ref C) (.ref D) else none) = some b
  rw [if_pos e2]
  exact hs
open PySem PySem.Spec PyProof.Rows PySem.F
/-! ## own errors over KeyError: they are made by LookupError's __new__ -/
abbrev keTl : List Value := [.type "KeyError", .type "LookupError", .type "Exception", .type "BaseException", .type "object"]
theorem keInit : Slot "KeyError" "__init__" "KeyError.__init__" := .of (owner := "KeyError") (n := "__init__")
  (by rw [typeLookup_type, builtinLookup_eq_fast]
      kernel_rfl)
  (by decide +kernel) (by decide +kernel)
  (by decide +kernel)
  (by first
      | exact .inl (by decide +kernel)
      | exact .inr (by decide +kernel))
  (by rw [isSubtype_type]
      kernel_rfl)
theorem keEntry : entryFor table "KeyError.__init__" = some Builtin.«BaseException.__init__» :=
  entryFor_alias (id' := "BaseException.__init__")
    (by rw [fastTable_eq_tree]
        kernel_rfl)
    (by first | rfl | decide +kernel) (by decide +kernel)
    (by rw [fastTable_eq_tree]
        kernel_rfl)
theorem store_KeyError : StoreFacts "KeyError" keTl "object.__setattr__" "object" where
  mro := by rw [mroOf_type]; kernel_rfl
  slot := .of (owner := "object") (n := "__setattr__")
    (by rw [typeLookup_type, builtinLookup_eq_fast]
        kernel_rfl)
    (by decide +kernel) (by decide +kernel)
    (by decide +kernel)
    (by first
        | exact .inl (by decide +kernel)
        | exact .inr (by decide +kernel))
    (by rw [isSubtype_type]
        kernel_rfl)
  entry := store_LookupError.entry
  kind := store_LookupError.kind
  split := store_LookupError.split
  hasOwner := by decide +kernel
  args := store_LookupError.args
  passes := fun z => by kernel_rfl
section
variable {prog : Program} {w : World} {A : Around} {E : Value → Shared → Prop} {R : Result → Shared → Prop} {hp : Heap} {g : Array GenState} {d : Drawn} {t : Nat} {os : OsState}
variable {nm q : Str} {C N : Addr} {bs bm rest sub : List Value} {hdct ab : Bool} {sn : List Str} {col : Option Bool} {dd : Option Addr} {k0 k1 k2 k3 k5 : Option Value}
theorem ke_has (hT : ∀ Y : String, bm.contains (.type Y) = keTl.contains (.type Y)) {Y : String} {b : Bool} (e : keTl.contains (.type Y) = b) : (Value.ref C :: bm).contains (.type Y) = b := by
  rw [List.contains_cons, hT, e]
  rfl
theorem ke_checkN {M : Model} {Q : Unit → Shared → Prop} (hT : ∀ Y : String, bm.contains (.type Y) = keTl.contains (.type Y)) (hC : hp.get? C = some (excClassObj nm q C N bs bm hdct sn sub ab col dd k0 k1 k2 k3 k5 "LookupError.__new__")) (hq : Q () ⟨hp, g, d, t, os⟩) :
    wpAny M A (checkBuiltinCall "LookupError.__new__" ⟨.ref C :: rest, []⟩) Q E ⟨hp, g, d, t, os⟩ := by
  have F := excBase_LookupError
  have has : (Value.ref C :: bm).contains (.type "LookupError") = true := ke_has hT (by decide +kernel)
  have star := F.noStar
  simp only [checkBuiltinCall, F.newKind, F.newSplit, F.newRow]
  repeat (first
    | refine wpAny_loadPart_at hC ?_
    | (refine wpAny_isSubtype_exc hC ?_
       rw [has])
    | refine wpAny_staticBase_exc hC ?_
    | refine wpAny_madeBy_exc hC ?_
    | simp only [bne_self_eq_false, Bool.false_eq_true, if_false]
    | wp_step)
  exact hq
theorem ke_new (hT : ∀ Y : String, bm.contains (.type Y) = keTl.contains (.type Y)) (hC : hp.get? C = some (excClassObj nm q C N bs bm hdct sn sub ab col dd k0 k1 k2 k3 k5 "LookupError.__new__"))
    (hq : R (.ok (.ret (.ref (hp.objs.size + 1)))) ⟨(hp.push (PySem.W.kdv_tup rest)).push (PySem.HandSPX.excO C hp.objs.size), g, d, t, os⟩) (hr : rest.length ≤ sizeLine) :
    codeAny (model prog w) A (.builtin "LookupError.__new__" ⟨.ref C :: rest, []⟩) R ⟨hp, g, d, t, os⟩ := by
  have F := excBase_LookupError
  have e0 := F.ends
  have e1 : (Value.ref C :: bm).contains (.type "LookupError") = true := ke_has hT (by decide +kernel)
  have e2 : (Value.ref C :: bm).contains (.type "AttributeError") = false := ke_has hT (by decide +kernel)
  have e3 : (Value.ref C :: bm).contains (.type "NameError") = false := ke_has hT (by decide +kernel)
  refine codeAny_builtinAt F.entry ?_
  unfold Builtin.«BaseException.__new__»
  refine PySem.wpAt_bind ?_
  show PySem.wpAt _ _ _ (stack >>= _) _ _ _
  refine PySem.wpAt_bind (PySem.wpAt_stack fun p below => PySem.wpAt_of_wpAny ?_)
  wp_walk
  refine PySem.wpAt_of_wpAny ?_
  rw [F.owner]
  repeat (first
    | with_reducible refine wpAny_madeHere_exc F.canon hC ?_
    | with_reducible refine wpAny_loadPart_at hC ?_
    | (with_reducible refine wpAny_isSubtype_exc hC ?_
       first
       | rw [e1]
       | rw [e2]
       | rw [e3])
    | wp_step)
  show R _ _
  rw [Heap.size_push]
  exact hq
theorem ke_type {fI : Addr} {Q : Fin → Shared → Prop} (hT : ∀ Y : String, bm.contains (.type Y) = keTl.contains (.type Y)) (hC : hp.get? C = some (excClassObj nm q C N bs bm hdct sn sub ab col dd k0 k1 k2 k3 k5 "LookupError.__new__"))
    (hi : PySem.W.Looks (model prog w) hp (typeLookup (.ref C) "__init__") (some (.ref fI))) (hb : ∀ self, PySem.W.Looks (model prog w) hp (bindSpecial (.ref fI) self) (.ref fI, [self])) (hr : rest.length ≤ sizeLine)
    (hq : codeAny (model prog w) A (.call (.ref fI) ⟨.ref (hp.objs.size + 1) :: rest, []⟩) (fun r s' => match r with | .ok (.ret v) => v = .none ∧ Q (.done (.ret (.ref (hp.objs.size + 1)))) s' | .ok _ => False | .error e => E e s')
      ⟨(hp.push (PySem.W.kdv_tup rest)).push (PySem.HandSPX.excO C hp.objs.size), g, d, t, os⟩) :
    wpAny (model prog w) A (Builtin.«type.__call__» ⟨.ref C :: rest, []⟩) Q E ⟨hp, g, d, t, os⟩ := by
  repeat (first
    | with_reducible refine wpAny_loadPart_at hC ?_
    | with_reducible refine wpAny_madeBy_exc hC ?_
    | wp_step)
  refine codeAny_call_builtin_code (Code.quiet_builtin _ excBase_LookupError.quiet) (ke_checkN hT hC ?_)
  refine ke_new hT hC ?_ hr
  show wpAny _ _ _ _ _ _
  have kk : ∀ b o, hp.get? b = some o → ((hp.push (PySem.W.kdv_tup rest)).push (PySem.HandSPX.excO C hp.objs.size)).get? b = some o := fun b o e => Heap.get?_push_of_some _ (Heap.get?_push_of_some _ e)
  have hC1 := kk _ _ hC
  have hg : ((hp.push (PySem.W.kdv_tup rest)).push (PySem.HandSPX.excO C hp.objs.size)).get? (hp.objs.size + 1) = some (PySem.HandSPX.excO C hp.objs.size) := by heap_get
  have self : (Value.ref C :: bm).contains (.ref C) = true := by simp
  have i1 := hi.keeps kk
  have b1 := (hb (.ref (hp.objs.size + 1))).keeps kk
  unfold isInstance
  repeat (first
    | with_reducible refine wpAny_loadPart_at hg ?_
    | (with_reducible refine wpAny_isSubtype_exc hC1 ?_
       rw [self])
    | wp_step)
  show wpAny _ _ (typeLookup (.ref C) _) _ _ _
  refine i1.at ?_
  refine wpAny_holding (wpAny_bind (b1.at ?_))
  refine wpAny_bind (wpAny_call (codeAny_mono hq fun r s2 z => ?_))
  rcases r with e | (v | _ | _ | _) <;> first
    | exact z
    | exact z.elim
    | skip
  obtain ⟨rfl, z⟩ := z
  first
    | exact wpAny_pure (wpAny_pure z)
    | (wp_walk
       exact z)
end
theorem ke_makes : MakesOwn "LookupError.__new__" keTl := fun {prog w A R hp g d t os nm q C N fI bs bm rest sub hdct ab sn col dd k0 k1 k2 k3 k5} hT hC hi hb hr hq => by
  have f1 := tc_lookup
  have f2 := tc_bind (.ref C)
  have hTy : (⟨hp, g, d, t, os⟩ : Shared).TypeIs (.ref C) "type" := ⟨_, hC, rfl⟩
  refine codeAny_of_tree ?_
  show wpAny _ _ (callAny (.ref C) _) _ _ _
  repeat (any_goals (first
    | assumption
    | with_reducible refine wpAny_loadPart_at hC ?_
    | wp_step))
  refine ⟨rfl, ?_⟩
  refine codeAny_call_builtin_at (Code.quiet_builtin _ (by decide +kernel)) entry_typeCall (wpAny_check_type_call_sub hC (ke_type hT hC hi hb hr ?_))
  refine codeAny_mono hq fun r s2 z => ?_
  rcases r with e | (v | _ | _ | _) <;> exact z
theorem ke_inits : InitsOwn "LookupError.__new__" "KeyError.__init__" keTl := fun {prog w A R hp g d t os nm q C N e t0 bs bm rest sub hdct ab sn col dd k0 k1 k2 k3 k5} hT hC he hr hq => by
  have has : (Value.ref C :: bm).contains (.type "KeyError") = true := ke_has hT (by decide +kernel)
  have star : ("KeyError" != "*") = true := by decide +kernel
  have hk : builtinKind "KeyError.__init__" = some .slot := by kernel_rfl
  have hsp : splitId "KeyError.__init__" = some ("KeyError", "__init__") := by kernel_rfl
  have hrow : Manifest.signature? "KeyError.__init__" = some ⟨.positional, "*", "KeyError", .self, [⟨"args", .varPos, false⟩]⟩ := by kernel_rfl
  refine codeAny_call_builtin keInit.plain keEntry ?_
  have chk : ∀ {M : Model} {A : Around} {Q : Unit → Shared → Prop} {E : Value → Shared → Prop}, Q () ⟨hp, g, d, t, os⟩ → wpAny M A (checkBuiltinCall "KeyError.__init__" ⟨.ref e :: rest, []⟩) Q E ⟨hp, g, d, t, os⟩ := fun {M A Q E} h => by
    simp only [checkBuiltinCall, hk, hsp, hrow]
    repeat (first
      | (with_reducible refine wpAny_loadPart_at he ?_
         show wpAny _ _ _ _ _ _)
      | with_reducible refine wpAny_loadPart_at hC ?_
      | (with_reducible refine wpAny_isSubtype_exc hC ?_
         rw [has])
      | wp_step)
    refine wpAny_onRaise ?_
    rw [show ∀ (a b : String) (n : Nat), Bind.check ⟨.positional, "*", "KeyError", .self, [⟨"args", .varPos, false⟩]⟩ a b n (List.map (fun x => x.fst) ({ pos := Value.ref e :: rest } : Args).kw) = pure () from fun a b n => check_star_args _ _ _ _ _ _]
    exact wpAny_pure h
  refine chk ?_
  wp_walk
  refine hq _ hp.objs.size (fun b o hb ho => ?_) ?_
  · rw [Heap.get?_update_other _ _ (Ne.symm hb)]
    exact Heap.get?_push_of_some _ ho
  · rw [Heap.get?_update_self _ (Heap.get?_push_of_some _ he) rfl]
    rfl
/-! ## xs.index(b), bools -/
def mIdxB (K : PySem.W.Frag) : RM := fun x vs H Q => ∃ (l : Addr) (bs : List Bool) (k : Bool), x = .ref l ∧ vs = [.bl k] ∧ SqL K H l (bs.map V.bl) ∧ k ∈ bs ∧ bs.length ≤ 1000 ∧ Q (.int (bs.idxOf k : Nat)) H
section
variable {X : Cx}
theorem mt_idxB : MtR X "list.index" (fun x vs H Q => mIdxB X.K x vs H Q) := by
  intro pins s σ H x xs v us Q I rx rxs h
  obtain ⟨p, bs, k, rfl, rfl, hs, hk, hl, q⟩ := h
  cases rx
  obtain ⟨u, rfl, ru⟩ := rxs.one
  cases (show u = Value.bool k from ru)
  obtain ⟨its, rv, pl, hz⟩ := I.list hs
  obtain rfl := bools_of_vals rv
  refine PySem.SeqAt.call_list_index (ks := bs) (k := k) (vs := bs.map Value.bool) pl.isList ⟨by simp, fun j h1 h2 => ?_⟩ (by rw [sizeLine_eq]; omega) hk ⟨.int (bs.idxOf k : Nat), H, I.tok _, ⟨s.toks, rfl⟩, q⟩
  have e : (bs.map Value.bool)[j] = Value.bool bs[j] := by simp
  rw [e]
  refine (PySem.SeqAt.EqAt.bool_bool bs[j] k).cast ?_
  cases bs[j] <;> cases k <;> rfl
theorem m_idxB : SM X "list.index" (mIdxB X.K) := ⟨_, mt_idxB, fun x vs H Q ⟨l, bs, k, e1, e2, h, hk, hl, q⟩ H1 x => ⟨l, bs, k, e1, e2, x.sqL h, hk, hl, H, x, q⟩⟩
end
/-! ## repr of any data, dicts anywhere in it -/
mutual
inductive Dg (K : PySem.W.Frag) (H : Hp) : V → PyData → Prop
  | non : Dg K H .non .none
  | bl (b : Bool) : Dg K H (.bl b) (.bool b)
  | int (i : Int) : Dg K H (.int i) (.int i)
  | str (x : Str) : Dg K H (.str x) (.str x)
  | lst {a : Addr} {xs : List V} {ds : List PyData} (h : SqL K H a xs) (r : Dgs K H xs ds) : Dg K H (.ref a) (.list ds)
  | tup {a : Addr} {xs : List V} {ds : List PyData} (h : SqT K H a xs) (r : Dgs K H xs ds) : Dg K H (.ref a) (.tuple ds)
  | dct {a : Addr} {kvs : List (Key × V)} {ps : List (PyData × PyData)} (h : H a = some (.dK kvs)) (r : Dgk K H kvs ps) : Dg K H (.ref a) (.dict ps)
inductive Dgs (K : PySem.W.Frag) (H : Hp) : List V → List PyData → Prop
  | nil : Dgs K H [] []
  | cons {v : V} {d : PyData} {vs : List V} {ds : List PyData} (h : Dg K H v d) (r : Dgs K H vs ds) : Dgs K H (v :: vs) (d :: ds)
inductive Dgk (K : PySem.W.Frag) (H : Hp) : List (Key × V) → List (PyData × PyData) → Prop
  | nil : Dgk K H [] []
  | cons {k : Key} {v : V} {d : PyData} {kvs : List (Key × V)} {ps : List (PyData × PyData)} (h : Dg K H v d) (r : Dgk K H kvs ps) : Dgk K H ((k, v) :: kvs) ((keyD k, d) :: ps)
end
mutual
theorem Dg.ex {K : PySem.W.Frag} {H H' : Hp} (x : Ex H H') : ∀ (d : PyData) {v : V}, Dg K H v d → Dg K H' v d
  | .none, _, .non => .non
  | .bool _, _, .bl b => .bl b
  | .int _, _, .int i => .int i
  | .str _, _, .str y => .str y
  | .list ds, _, .lst h r => .lst (x.sqL h) (Dgs.ex x ds r)
  | .tuple ds, _, .tup h r => .tup (x.sqT h) (Dgs.ex x ds r)
  | .dict ps, _, .dct h r => .dct (x _ _ h) (Dgk.ex x ps r)
theorem Dgs.ex {K : PySem.W.Frag} {H H' : Hp} (x : Ex H H') : ∀ (ds : List PyData) {vs : List V}, Dgs K H vs ds → Dgs K H' vs ds
  | [], _, .nil => .nil
  | d :: ds, _, .cons h r => .cons (Dg.ex x d h) (Dgs.ex x ds r)
theorem Dgk.ex {K : PySem.W.Frag} {H H' : Hp} (x : Ex H H') : ∀ (ps : List (PyData × PyData)) {kvs : List (Key × V)}, Dgk K H kvs ps → Dgk K H' kvs ps
  | [], _, .nil => .nil
  | (_, d) :: ps, _, .cons h r => .cons (Dg.ex x d h) (Dgk.ex x ps r)
end
mutual
theorem Dg.of {K : PySem.W.Frag} {H : Hp} : ∀ (d : PyData) {v : V}, Dp K H v d → Dg K H v d
  | .none, _, .non => .non
  | .bool _, _, .bl b => .bl b
  | .int _, _, .int i => .int i
  | .str _, _, .str y => .str y
  | .list ds, _, .lst h r => .lst h (Dgs.of ds r)
  | .tuple ds, _, .tup h r => .tup h (Dgs.of ds r)
theorem Dgs.of {K : PySem.W.Frag} {H : Hp} : ∀ (ds : List PyData) {vs : List V}, DpAll K H vs ds → Dgs K H vs ds
  | [], _, .nil => .nil
  | d :: ds, _, .cons h r => .cons (Dg.of d h) (Dgs.of ds r)
end
section
variable {X : Cx} {pins : List (Addr × Obj)} {σ : St} {H : Hp} {s : Shared}
end
section
variable {X : Cx} {j : Nat} {W : WX} {k : Nat} {H : Hp} {v : V} {d : PyData} {e : Expr} {es : List Expr} {tr : RA} {pos p : Pos}
end
/-! ## data that repr can tell, measured -/
structure Rm (d : PyData) (b p : Nat) : Prop where
  l : PyData.leavesShort 130 d = true
  s : PyData.showable d = true
  b : d.bulk ≤ b
  p : d.depth ≤ p
structure Rms (ds : List PyData) (b p : Nat) : Prop where
  l : PyData.leavesShortAll 130 ds = true
  s : PyData.showableAll ds = true
  b : PyData.bulkAll ds ≤ b
  p : PyData.depthAll ds ≤ p
theorem Rm.q {d : PyData} {b p : Nat} (h : Rm d b p) (hb : b ≤ 20000 := by omega) (hp : p ≤ 60 := by omega) : RqOk d := ⟨h.l, h.s, Nat.le_trans h.b hb, Nat.le_trans h.p hp⟩
theorem RqOk.m {d : PyData} (h : RqOk d) : Rm d 20000 60 := ⟨h.l, h.s, h.b, h.p⟩
theorem Rm.mono {d : PyData} {b p b' p' : Nat} (h : Rm d b p) (hb : b ≤ b' := by omega) (hp : p ≤ p' := by omega) : Rm d b' p' := ⟨h.l, h.s, Nat.le_trans h.b hb, Nat.le_trans h.p hp⟩
theorem Rm.non : Rm .none 0 0 := ⟨by simp only [PyData.leavesShort], by simp only [PyData.showable], by simp only [PyData.bulk]; omega, by simp only [PyData.depth]; omega⟩
theorem Rm.bl {b : Bool} : Rm (.bool b) 0 0 := ⟨by simp only [PyData.leavesShort], by simp only [PyData.showable], by simp only [PyData.bulk]; omega, by simp only [PyData.depth]; omega⟩
theorem Rm.int {i : Int} (h : i.natAbs < 10 ^ 120) : Rm (.int i) 0 0 := ⟨by simp only [PyData.leavesShort]; exact decide_eq_true (int_shown h), by simp only [PyData.showable]; exact decide_eq_true (int_log h), by simp only [PyData.bulk]; omega, by simp only [PyData.depth]; omega⟩
theorem Rm.str {z : Str} (h : PyData.strOk z = true) : Rm (.str z) z.length 0 := ⟨by
  unfold PyData.strOk at h
  rw [← Array.all_toList, List.all_eq_true] at h
  simp only [PyData.leavesShort, List.all_eq_true, decide_eq_true_eq]
  exact fun c hc => Nat.lt_trans (of_decide_eq_true (h c hc)) (by decide), by simp only [PyData.showable], by simp only [PyData.bulk]; exact Nat.le_refl _, by simp only [PyData.depth]; omega⟩
theorem Rms.nil : Rms [] 0 0 := ⟨by simp only [PyData.leavesShortAll], by simp only [PyData.showableAll], by simp only [PyData.bulkAll]; omega, by simp only [PyData.depthAll]; omega⟩
theorem Rms.cons {d : PyData} {ds : List PyData} {b p b' p' : Nat} (h : Rm d b p) (r : Rms ds b' p') : Rms (d :: ds) (b + 1 + b') (p + p') := ⟨by simp only [PyData.leavesShortAll, h.l, r.l, Bool.and_self], by simp only [PyData.showableAll, h.s, r.s, Bool.and_self], by
  have := h.b
  have := r.b
  simp only [PyData.bulkAll]
  omega, by
  have := h.p
  have := r.p
  simp only [PyData.depthAll]
  omega⟩
theorem Rms.mono {ds : List PyData} {b p b' p' : Nat} (h : Rms ds b p) (hb : b ≤ b' := by omega) (hp : p ≤ p' := by omega) : Rms ds b' p' := ⟨h.l, h.s, Nat.le_trans h.b hb, Nat.le_trans h.p hp⟩
theorem Rms.all {ds : List PyData} {b p : Nat} (h : ∀ d ∈ ds, Rm d b p) : Rms ds (ds.length * (b + 1)) p := by
  induction ds with
  | nil => exact Rms.nil.mono (Nat.zero_le _) (Nat.zero_le _)
  | cons d ds ih =>
    have a := h d (List.mem_cons_self ..)
    have r := ih fun x hx => h x (List.mem_cons_of_mem _ hx)
    have l1 := a.p
    have l2 := r.p
    have l3 := a.b
    have l4 := r.b
    refine ⟨by simp only [PyData.leavesShortAll, a.l, r.l, Bool.and_self], by simp only [PyData.showableAll, a.s, r.s, Bool.and_self], ?_, ?_⟩
    · simp only [PyData.bulkAll, List.length_cons, Nat.add_mul, Nat.one_mul]
      omega
    · simp only [PyData.depthAll]
      omega
theorem Rm.lst {ds : List PyData} {b p : Nat} (h : Rms ds b p) : Rm (.list ds) b (p + 1) := ⟨by simp only [PyData.leavesShort, h.l], by simp only [PyData.showable, h.s], by simp only [PyData.bulk]; exact h.b, by
  have := h.p
  simp only [PyData.depth]
  omega⟩
theorem Rm.tup {ds : List PyData} {b p : Nat} (h : Rms ds b p) : Rm (.tuple ds) b (p + 1) := ⟨by simp only [PyData.leavesShort, h.l], by simp only [PyData.showable, h.s], by simp only [PyData.bulk]; exact h.b, by
  have := h.p
  simp only [PyData.depth]
  omega⟩
/-! ## the law's end, with what the entry's heap has -/
section
variable {P : Program} {w : World} {K : PySem.W.Frag} {mg mb : Str → Option Value} {k : Nat} {fa a : Addr} {fd : FuncData} {x : Str} {sp : Sp} {s : Shared} {vs : List Value} {ns : List Int}
end
/-! ## any value: isinstance(x, C), o == x; own errors as values -/
inductive AnyT (K : PySem.W.Frag) (H : Hp) : V → Value → Prop
  | ty {v : V} {T : String} (h : Ty H v T) : AnyT K H v (.type T)
  | ins {a C dx : Addr} {fs : List (Str × V)} (h : H a = some (.ins C dx fs)) (c : C8.InsC K C) : AnyT K H (.ref a) (.ref C)
  | err {a C : Addr} {d : Option Addr} (h : H a = some (exo a C d)) (T : ExcC K C) (hd : d = none ∨ ∃ x fs, d = some x ∧ H x = some (exd x fs)) : AnyT K H (.ref a) (.ref C)
theorem AnyT.ex {K : PySem.W.Frag} {H H' : Hp} (x : Ex H H') {v : V} {t : Value} (h : AnyT K H v t) : AnyT K H' v t := by
  cases h with
  | ty h => exact .ty (h.ex x)
  | ins h c => exact .ins (x _ _ h) c
  | err h T hd => exact .err (x _ _ h) T (hd.imp id fun ⟨y, fs, e, z⟩ => ⟨y, fs, e, x _ _ z⟩)
theorem kit_tyref {K : PySem.W.Frag} {D : Addr} {U : String} {b : Bool} (hd : PySem.W.hasDictIn K D = true) (ht : PySem.W.typeIn K (.ref D) = some (.type "type")) (hs : PySem.W.subIn K (.type U) (.ref D) = some b) : PySem.W.kitOne K (.type U) (.ref D) = some b := by
  obtain ⟨cd, hc, _⟩ := PySem.W.any_some hd
  have e2 : ((PySem.W.clsIn K D).isSome && PySem.W.typeIn K (.ref D) == some (.type "type")) = true := by
    rw [hc, ht] <;> rfl
  have e1 : ¬ (Value.type U == Value.ref D) = true := fun z => by
    have := beq_iff_eq.mp z
    cases this
  unfold PySem.W.kitOne PySem.W.kitCls
  rw [if_neg e1]
  show (if ((PySem.W.clsIn K D).isSome && PySem.W.typeIn K (.ref D) == some (.type "type")) = true then PySem.W.subIn K (.type U) (.ref D) else none) = some b
  rw [if_pos e2]
  exact hs
theorem notFirst_of {K : PySem.W.Frag} {C : Addr} {t : Value} (h : PySem.W.subIn K t (.ref C) = some false) : PySem.W.notFirst K C t = true := by
  unfold PySem.W.notFirst
  rw [h]
  simp
section
variable {X : Cx} {pins : List (Addr × Obj)} {σ : St} {H : Hp} {s : Shared}
theorem any_kit {x : V} {u t : Value} (I : Inv X pins σ H s) (rx : RelV x u) (h : AnyT X.K H x t) : ∃ P : Heap → Prop, PySem.W.KitX X.K u t P ∧ P s.heap ∧ u ≠ .builtin "__main__.__loader__#opaque" := by
  cases h with
  | ty h => exact kit_of I rx h.x
  | ins h c => exact kit_of I rx (.base (TyOf.ins h c.cl c.ha c.hn c.htk c.hm))
  | @err a C d h T hd =>
    cases (show u = Value.ref a from rx)
    obtain ⟨t1, ho⟩ := exo_at I.hok h
    have J : ∃ od, PySem.W.InstAt s.heap a { cls := .ref C, dict := d, data := .fields #[.ref t1, .none, .none, .none, .bool false, .none] } C od := by
      rcases hd with rfl | ⟨y, fs, rfl, e⟩
      · exact ⟨none, ho, rfl, rfl, trivial⟩
      · obtain ⟨mA, hns, _⟩ := exd_at I.hok e
        obtain ⟨od, h1, _⟩ := lookIn_ns hns
        exact ⟨some od, ho, rfl, rfl, h1⟩
    obtain ⟨od, J⟩ := J
    exact ⟨_, kitx_clsE T, J, fun z => nomatch z⟩
end
section
variable {X : Cx} {j k : Nat} {W : WX} {C C' : Addr} {a b e : Expr} {es : List Expr} {tr : RA} {pos p : Pos}
def cIsAny (K : PySem.W.Frag) (C : Addr) : RC := c2 fun x y H Q => ∃ (t : Value) (b : Bool), AnyT K H x t ∧ y = .ref C ∧ PySem.W.kitOne K t (.ref C) = some b ∧ Q (.bl b) H
theorem c_isAny : SC X (.builtin "isinstance") (cIsAny X.K C) := sc2 fun x y H Q ⟨t, b, hx, e1, hk, q⟩ => by
  subst e1
  refine .of (r := fun xs H1 Q1 => xs = [x, .ref C] ∧ AnyT X.K H1 x t ∧ Q1 (.bl b) H1) (fun pins s σ H1 xs us Q1 I r ⟨ex, h1, q1⟩ => ?_) fun H1 x1 => ⟨rfl, hx.ex x1, H, x1, q⟩
  subst ex
  obtain ⟨u1, u2, rfl, r1, r2⟩ := vals2 r
  cases (show u2 = Value.ref C from r2)
  obtain ⟨P, kx, hP, ne⟩ := any_kit I r1 h1
  exact PySem.W.kia_one kx I.kIn hP hk ne fun tk => ⟨.bl b, H1, I.tok tk, rfl, q1⟩
/-- o == y, y any value -/
def oEqAny (K : PySem.W.Frag) (C : Addr) (sp : Sp) : RO := fun x y H Q => ∃ a dx fs t, x = .ref a ∧ H a = some (.ins C dx fs) ∧ AnyT K H y t ∧ PySem.W.notFirst K C t = true ∧ sp [x, y] H (fun v H2 => ∃ r, v = .bl r ∧ Q (.bl r) H2) fun _ _ _ => False
theorem o_eqAny {sp : Sp} {ps : List Str} (Cm : CalM X.prog X.w X.K X.mg X.base C "__eq__" k ps [] sp) (hkj : k ≤ j := by decide) (hcm : X.calm = true := by rfl) : SOc X j (compareOp .Eq) (oEqAny X.K C sp) := by
  obtain ⟨f, fd, ds, F, hmt, hb, hd⟩ := Cm.ex
  cases hd
  refine ⟨fun c x y H Q ⟨a, dx, fs, t, e1, h1, h2, nf, q⟩ H1 x1 pins s σ v u I r1 r2 => ?_⟩
  subst e1
  obtain rfl : v = Value.ref a := r1
  obtain ⟨m, od, hF, J⟩ := inst_of I (x1 _ _ h1)
  obtain ⟨P, kx, hP, ne⟩ := any_kit I r2 (h2.ex x1)
  refine PySem.W.cmp_K (op := .Eq) (tb := t) c.units0 hF I.ok.mod.kin J (kx.ty _ _ I.kIn hP) nf hmt.at_ hmt.fn ?_
  refine wpAny_mono (run_fngA (W := fun _ _ _ _ => False) (A := X.A) (us := [.ref a, u]) (vs := [.ref a, y]) F ((c.mono hkj).room hcm) c.gd rfl ?_ hb I x1 (.cons rfl (.cons r2 .nil)) q) (fun v s' ⟨z, H4, I4, rz, H5, x5, r, ez, qz⟩ => ?_) fun _ _ x => x
  · exact c.tk.imp fun cl d σ H ⟨_, _, z⟩ => z.elim
  · subst ez
    cases rz
    exact ⟨.bl _, H4, I4, rfl, H5, x5, qz⟩
/-- C(..), an own error, as a value -/
def rMkX (C : Addr) (sp : Sp) (dvs : List V) (t : RA) : RX := fun σ H Q W => t σ H (fun vs H1 => vs.length ≤ 1000 ∧ ∀ a, H1 a = none → sp (.ref a :: (vs ++ dvs)) (upd H1 a (exo a C none)) (fun v H2 => v = .non ∧ Q (.ref a) H2) (fun _ _ _ => False)) W
theorem s_mkX {sp : Sp} {ps : List Str} {dvs : List V} {n : Str} {B newId initId : String} {tl : List Value} (T : OwE X.K C B newId initId tl) (hmg : X.mg n = some (.ref C)) (Cm : CalM X.prog X.w X.K X.mg X.base C "__init__" k ps dvs sp) (ha : SA X j tr (e :: es)) (hkj : k + 1 ≤ j := by decide) (hg : Gl X n := by rfl) (hdb : (n == ("__debug__" : Str)) = false := by decide)
    (he : starEach (e :: es) X.env = (false, eval e X.env) :: starEach es X.env := by rfl) (hpl : (backTo pos (starEach es X.env)).any (·.1) = false := by rfl) (hcm : X.calm = true := by rfl) : SX X j (rMkX C sp dvs tr) (.Call (.Name n p) (e :: es) [] pos) := by
  obtain ⟨fI, fd, ds, F, mt, hb, hd⟩ := Cm.ex
  refine ⟨fun {W} cn σ H Q q H0 x pins s I => ?_⟩
  refine wpAny_Call_Name_kw (ld_glob I hg hmg ?_ hdb)
  refine PySem.W.callWith_K (h₀ := X.base) I.ok.mod.kin T.kp (thn (ha.run cn q H0 x pos pins s I) fun us s1 ⟨vs, H1, I1, r1, H3, x3, hz, q1⟩ => ⟨I1.kIn, ?_⟩) he hpl
  show wpAny _ _ (call (.ref C) us) _ _ _
  obtain ⟨c1, c2, c3, c4, c5, c6, c7, c8, c9, c10, c11, k0, k1, k2, k3, k5, hC, hT⟩ := PySem.W.excInit_of I1.kIn T.ini
  obtain ⟨hp, g, dr, tk, os⟩ := s1
  have hsz : hp.objs.size ≤ hp.objs.size + 1 := Nat.le_succ _
  have hn : H1 (hp.objs.size + 1) = none := I1.hok.fresh hsz
  have hq := q1 (hp.objs.size + 1) (x3.free hn)
  have kk : ∀ b o, hp.get? b = some o → ((hp.push (PySem.W.kdv_tup us)).push (PySem.HandSPX.excO C hp.objs.size)).get? b = some o := fun b o e => Heap.get?_push_of_some _ (Heap.get?_push_of_some _ e)
  have hget : ((hp.push (PySem.W.kdv_tup us)).push (PySem.HandSPX.excO C hp.objs.size)).get? (hp.objs.size + 1) = some (PySem.HandSPX.excO C hp.objs.size) := by heap_get
  have I2 : Inv X pins σ (upd H1 (hp.objs.size + 1) (exo (hp.objs.size + 1) C none)) ⟨(hp.push (PySem.W.kdv_tup us)).push (PySem.HandSPX.excO C hp.objs.size), g, dr, tk, os⟩ :=
    I1.laid (t' := tk) (a := hp.objs.size + 1) (o := exo (hp.objs.size + 1) C none) (h' := (hp.push (PySem.W.kdv_tup us)).push (PySem.HandSPX.excO C hp.objs.size)) kk hsz (exo_ok hget)
  have r2 : Vals (V.ref (hp.objs.size + 1) :: (vs ++ dvs)) (Value.ref (hp.objs.size + 1) :: (us ++ ds)) := .cons rfl (r1.append hd)
  have hl : (Value.ref (hp.objs.size + 1) :: us ++ ds).length = ps.length := by
    have e := r2.length
    rw [F.len _ _ _ _ hq] at e
    exact e.symm
  have hus : us.length ≤ sizeLine := by
    rw [← Paired.length r1, sizeLine_eq]
    omega
  refine wpAny_call (T.mo hT hC (PySem.W.looks_findIn I1.kIn mt.at_) (fun self => PySem.W.bind_fn I1.kIn self (beq_iff_eq.mp mt.fn)) hus
    (codeAny_mono (F.run _ X.stack _ _ ⟨Value.ref (hp.objs.size + 1) :: us, []⟩ (Value.ref (hp.objs.size + 1) :: (us ++ ds)) _ _ _ _ (((cn.mono hkj).room hcm).make C us []) (Around.gd_make cn.gd C us []) (I2.env0.make C us []) (hb _ (Value.ref (hp.objs.size + 1) :: us) I2.kIn hl) r2 (x3.set _ _) hq) fun r s' hq' => ?_))
  rcases r with er | fl
  · obtain ⟨_, _, _, _, _, _, _, _, _, _, _, _, H2, _, z⟩ := hq'
    exact z.elim
  · cases fl with
    | ret u =>
      obtain ⟨v, H2, J, rv, H4, x4, ev, q2⟩ := I2.after hq'
      subst ev
      exact ⟨rv, .ref (hp.objs.size + 1), H2, J, rfl, H4, x4, q2⟩
    | _ => exact hq'.elim
end
/-! ## zip of tuples, t[::-1] -/
section
variable {X : Cx} {j : Nat} {W : WX} {e e2 st : Expr} {tr : RA} {to ts : RX} {p pos tpos : Pos} {p2 : Pos} {elts : List Expr} {kk : Nat}
end
section
open Builtin
variable {prog : Program} {w : World} {A : Around} {E : Value → Shared → Prop} {s : Shared}
end
section
variable {X : Cx} {j : Nat} {e st : Expr} {to ts : RX} {p2 pos : Pos}
end
/-! ## t + u, either of them empty -/
section
variable {X : Cx}
end
open PySem.Sem (wp)
/-! ## zip(text, list) -/
section
variable {prog : Program} {w : World} {A : Around} {E : Value → Shared → Prop} {s : Shared}
end

section
variable {prog : Program} {w : World} {A : Around} {E : Value → Shared → Prop} {s : Shared}

end
section
variable {X : Cx} {j : Nat} {e e2 : Expr} {tr : RA} {p pos tpos : Pos} {elts : List Expr} {kk : Nat}
end
/-! texts of words -/
open PySem.Sem (wp)
/-! ## zip(list, tuple) -/
section
variable {prog : Program} {w : World} {A : Around} {E : Value → Shared → Prop} {s : Shared}
end

section
variable {prog : Program} {w : World} {A : Around} {E : Value → Shared → Prop} {s : Shared}

end
section
variable {X : Cx} {j : Nat} {e e2 : Expr} {tr : RA} {p pos tpos : Pos} {elts : List Expr} {kk : Nat}
end
section
variable {X : Cx}
end
/-! ## repr of two great ints, or None -/
section
variable {prog : Program} {w : World} {A : Around} {E : Value → Shared → Prop} {s : Shared} {a : Int} {t : Tok}
open PySem.Builtin PySem.Builtin.Str PySem.Builtin.Int in
theorem call_int_repr_big {Q : Value → Shared → Prop} (hn : s.heap.NoDigits) (ha : a.natAbs < 10 ^ 4300) (h : Q (.str (toString a) s.toks) { s with toks := s.toks + 1 }) : wpAny (model prog w) A (call (.builtin "int.__repr__") [.int a t]) Q E s := by
  refine wpAny_call_entry F.slot_int_repr (typeIs_int s a t) F.entry_int_repr ?_ (F.args_int_repr_1 _)
  unfold Builtin.«int.__repr__»
  show wpAny _ _ (do let r ← Builtin.overDigitLimit? a; _) _ _ s
  refine wpAny_bind (overDigitLimit_any hn (fun hlt => ?_) (fun hge => absurd ha (Nat.not_lt.mpr hge)))
  exact wpAny_bind (wpAny_mkStr (wpAny_pure ⟨_, rfl, h⟩) (int_text_fits10 hlt))
theorem pyReprObj_big {Q : Value → Shared → Prop} (hn : s.heap.NoDigits) (ha : a.natAbs < 10 ^ 4300) (h : Q (.str (toString a) s.toks) { s with toks := s.toks + 1 }) : wpAny (model prog w) A (pyReprObj (.int a t)) Q E s := by
  have hv : [Value.int a t].any Value.onHeap = false := rfl
  unfold pyReprObj
  simp only [cRoomFor, hv, Bool.false_eq_true, if_false, pure_bind]
  refine wpAny_bind (wpAny_specialOf (name := Str.ofString "__repr__") (typeIs_int s a t) F.slot_int_repr.lookup ?_)
  refine wpAny_bind (m := callSpecialIfBound? (.int a t) (Str.ofString "__repr__")) (wpAny_callSpecialIfBound?_slot (name := Str.ofString "__repr__") (typeIs_int s a t) F.slot_int_repr (call_int_repr_big hn ha ?_))
  exact wpAny_bind (wpAny_isInstance (T := "str") (b := true) rfl isSubtype_str_str (wpAny_pure h))
theorem ReprK.big {as : List Addr} {h₀ : Heap} {d : Nat} (hn : h₀.NoDigits) (ha : a.natAbs < 10 ^ 4300) : ReprK prog w as h₀ d (.int a t) (toString a) := by
  intro base hb A g E s Q hg hcl hu hk hQ
  have hn' : base ≤ sizeLine := by omega
  rw [pyReprUnder_leaf (v := .int a t) hn' (fun _ e => nomatch e)]
  unfold pyRepr
  exact wpAny_bind (pyReprObj_big (hn.keeps hk) ha (wpAny_pure (hQ s.heap _ fun _ _ e => e)))
end
section
variable {X : Cx} {j : Nat} {W : WX} {k : Nat} {H : Hp} {v : V} {d : PyData} {e : Expr} {es : List Expr} {tr : RA} {pos p : Pos}
end
/-! ## name = {k: v for ..} on one line -/
section
variable {X : Cx}
end
section
variable {X : Cx} {j : Nat} {W : WX} {e : Expr} {σ : St} {H H1 : Hp} {Q : VK} {pos p : Pos} {t to : RX} {tc : RT} {g : RG} {tg iter : Expr} {w : World}
end
/-! ## dicts from ints to ints or None, compared -/
section
variable {X : Cx}
end
/-! ## methods with keyword-only parameters that have no defaults -/
structure DefMO (K : PySem.W.Frag) (C : Addr) (m qual : Str) (st : Stmt) (ps : List Str) : Type where
  f : Addr
  fd : FuncData
  F : Fun K m qual st f fd
  mt : Meth K C m f
section
variable {P : Program} {w : World} {K : PySem.W.Frag} {mg : Str → Option Value} {base : Heap} {n m qual : Str} {st : Stmt} {ps N : List Str} {k : Nat} {zs : RS} {C : Addr}
theorem DefMO.rfng (d : DefMO K C m qual st ps) (S : FnScope N ps (defScope st)) (hb : Body P w K mg base N qual st d.f k zs) : FnG P w K mg base (k + 1) d.f d.fd ps (rFn ps.length N zs) :=
  fng_of d.F S (fun vs H Q E h => h.1) fun cd A outer s H1 E1 W vs H Q E c o hW h => by
    have c2 : Cn (fx P w K mg base N qual st d.f cd A outer s H1 E1) (upW fun c d _ H' => E c d H') k := ⟨c.room, c.un, c.gd, c.tk.imp fun c0 d0 σ0 H0 ⟨H2, x2, q⟩ => c.wu _ _ _ _ _ (hW _ _ _ _ q) x2, fun c d σ H H' ⟨H2, x2, q⟩ x => ⟨H2, x2.trans x, q⟩⟩
    exact ((hb cd A outer s H1 E1).run c2 o h.2).le rfn_ends
theorem DefMO.kw {sp : Sp} (d : DefMO K C m qual st ps) (n : Nat) (ks : List Str) (g : {α : Type} → List α → List α → List α) (hrel : ∀ {vs zs : List V} {us ws : List Value}, Vals vs us → Vals zs ws → Vals (g vs zs) (g us ws))
    (hb : ∀ (kV doc pm : Value) (an : Option Addr) (cdv ct : Value) (us ws : List Value), us.length = n → ws.length = ks.length → bindArgs (PySem.W.fnOf m qual (defArgs st) (defBody st) (defScope st) .none kV doc pm an cdv ct) ⟨us, ks.zip ws⟩ = pure (ps.zip (g us ws)))
    (F : FnG P w K mg base k d.f d.fd ps sp) : CalMK P w K mg base C m k n ks g sp := by
  obtain ⟨oc2, od2, kV, doc, pm, an, cd, ct, osl2, e, lk2, _⟩ := d.F.ex
  refine ⟨d.f, d.fd, ps, g, F, d.mt, ⟨fun s us ws X l1 l2 => ?_, fun r1 r2 => hrel r1 r2⟩⟩
  rw [e]
  exact .of_eq (hb kV doc pm an cd ct us ws l1 l2)
end

local macro_rules | `(tactic| walk_at "G:heap") => `(tactic| first
  | with_reducible assumption
  | with_reducible exact upd_same
  | ((with_reducible apply SqL.of); walk_at "G:heap")
  | ((with_reducible apply SqT.of); walk_at "G:heap")
  | ((with_reducible apply hp_ne); (focus (with_reducible assumption)); walk_at "G:heap"))
local macro_rules | `(tactic| walk_at "G:ex") => `(tactic| first
  | with_reducible exact Ex.refl _
  | with_reducible assumption
  | ((with_reducible apply Ex.new); (focus (walk_at "G:ex")); with_reducible assumption)
  | ((with_reducible apply exput); (focus (walk_at "G:ex")); walk_at "G:heap"))
local macro_rules | `(tactic| walk_at "G:exb") => `(tactic| first
  | with_reducible exact ExB.refl
  | ((with_reducible apply ExB.set); walk_at "G:exb")
  | ((with_reducible apply ExB.new); (focus (walk_at "G:exb")); with_reducible assumption))
local macro_rules | `(tactic| walk_at "G:ty") => `(tactic| first
  | with_reducible assumption
  | with_reducible exact Ty.int _
  | with_reducible exact Ty.bl _
  | with_reducible exact Ty.str _
  | with_reducible exact Ty.non
  | ((with_reducible apply Ty.lst); (focus (walk_at "G:heap")))
  | ((with_reducible apply Ty.tup); (focus (walk_at "G:heap")))
  | ((with_reducible apply Ty.dct); (focus (walk_at "G:heap"))))
local macro_rules | `(tactic| walk_at "G:tyn") => `(tactic| first | exact .inl rfl | exact .inr (.inl rfl) | exact .inr (.inr (.inl rfl)) | exact .inr (.inr (.inr (.inl rfl))) | exact .inr (.inr (.inr (.inr (.inl rfl)))) | exact .inr (.inr (.inr (.inr (.inr rfl)))))
local macro_rules | `(tactic| walk_at "G:ix") => `(tactic| first | with_reducible assumption | ((with_reducible apply atI_nat); with_reducible assumption) | rfl)
local macro_rules | `(tactic| walk_at "G:side") => `(tactic| first | with_reducible assumption | omega | decide | (simp; done) | (simp; omega))
local macro_rules | `(tactic| walk_at "G:mod") => `(tactic| first | omega | decide)
local macro_rules | `(tactic| walk_at "G:fdiv") => `(tactic| (apply fdiv_ok; (focus (first | omega | decide)); first | omega | decide +kernel))
local macro_rules | `(tactic| walk_at "G:dig") => `(tactic| (apply And.intro; (focus (first | omega | decide +kernel)); first | omega | decide +kernel))
local macro_rules | `(tactic| walk_at "G:mul") => `(tactic| first
  | (apply mul_okL <;> omega)
  | (apply mul_okR <;> omega))
local macro_rules | `(tactic| walk_at "G:pow") => `(tactic| (apply pow_ok <;> omega))
local macro_rules | `(tactic| walk_at "G:shl") => `(tactic| (apply shl_fits <;> omega))
local macro_rules | `(tactic| walk_at "G:dp") => `(tactic| first
  | with_reducible assumption
  | with_reducible exact Dp.non
  | with_reducible exact Dp.bl _
  | with_reducible exact Dp.int _
  | with_reducible exact Dp.str _
  | with_reducible exact DpAll.nil
  | ((with_reducible apply DpAll.cons); (focus (walk_at "G:dp")); walk_at "G:dp")
  | ((with_reducible apply Dp.lst); (focus (walk_at "G:heap")); walk_at "G:dp")
  | ((with_reducible apply Dp.tup); (focus (walk_at "G:heap")); walk_at "G:dp"))
local macro_rules | `(tactic| walk_at "G:rp") => `(tactic| (refine RpOk.mk ?_ ?_ ?_; (focus (simp [fits, fitsAll]; try omega)); (focus (simp [PyData.bulk, PyData.bulkAll]; try omega)); (simp [PyData.depth, PyData.depthAll]; try omega)))
local macro_rules | `(tactic| walk_at "G:vis") => `(tactic| first | exact .inl rfl | exact .inr (.inl rfl) | exact .inr (.inr rfl))
local macro_rules | `(tactic| walk_at "vc") => `(tactic| ((conv => whnf); (try dsimp only)))
def top (i : Nat) : Stmt := PySem.Challenge.pw_sampledversions_k28_refused_copies_equal.main.body.getD i (.Pass ⟨0, 0, 0, 0⟩)
abbrev s_is_int : Stmt := top 8
theorem sc_is_int : FnScope ["value"] ["value"] (defScope s_is_int) := ⟨rfl, rfl, rfl, by decide +kernel, rfl, by decide +kernel, by decide +kernel⟩
abbrev s_is_version : Stmt := top 9
theorem sc_is_version : FnScope ["value"] ["value"] (defScope s_is_version) := ⟨rfl, rfl, rfl, by decide +kernel, rfl, by decide +kernel, by decide +kernel⟩
abbrev s_want_version : Stmt := top 11
theorem sc_want_version : FnScope ["value"] ["value"] (defScope s_want_version) := ⟨rfl, rfl, rfl, by decide +kernel, rfl, by decide +kernel, by decide +kernel⟩
abbrev s_want_number : Stmt := top 12
theorem sc_want_number : FnScope ["value", "least"] ["value", "least"] (defScope s_want_number) := ⟨rfl, rfl, rfl, by decide +kernel, rfl, by decide +kernel, by decide +kernel⟩
abbrev s_lowest_bit : Stmt := top 13
theorem sc_lowest_bit : FnScope ["version"] ["version"] (defScope s_lowest_bit) := ⟨rfl, rfl, rfl, by decide +kernel, rfl, by decide +kernel, by decide +kernel⟩
abbrev s_precedes : Stmt := top 14
theorem sc_precedes : FnScope ["version", "other", "one_step", "other_step"] ["version", "other"] (defScope s_precedes) := ⟨rfl, rfl, rfl, by decide +kernel, rfl, by decide +kernel, by decide +kernel⟩
abbrev s_odd_multiples : Stmt := top 15
theorem sc_odd_multiples : FnScope ["low", "high", "power", "count", "last", "found"] ["low", "high", "power", "count"] (defScope s_odd_multiples) := ⟨rfl, rfl, rfl, by decide +kernel, rfl, by decide +kernel, by decide +kernel⟩
abbrev s_strongest : Stmt := top 16
theorem sc_strongest : FnScope ["low", "high", "count", "found", "power"] ["low", "high", "count"] (defScope s_strongest) := ⟨rfl, rfl, rfl, by decide +kernel, rfl, by decide +kernel, by decide +kernel⟩
abbrev s_want_capacity : Stmt := top 20
theorem sc_want_capacity : FnScope ["capacity"] ["capacity"] (defScope s_want_capacity) := ⟨rfl, rfl, rfl, by decide +kernel, rfl, by decide +kernel, by decide +kernel⟩
abbrev s_weakest : Stmt := top 21
theorem sc_weakest : FnScope ["versions", "found", "version"] ["versions"] (defScope s_weakest) := ⟨rfl, rfl, rfl, by decide +kernel, rfl, by decide +kernel, by decide +kernel⟩
abbrev s_after_range : Stmt := top 22
theorem sc_after_range : FnScope ["waiting", "low", "high", "capacity", "others"] ["waiting", "low", "high", "capacity"] (defScope s_after_range) := ⟨rfl, rfl, rfl, by decide +kernel, rfl, by decide +kernel, by decide +kernel⟩
abbrev s__law_pot : Stmt := top 26
theorem sc__law_pot : FnScope ["_law_script", "_law_k", "_law_cell"] ["_law_script", "_law_k"] (defScope s__law_pot) := ⟨rfl, rfl, rfl, by decide +kernel, rfl, by decide +kernel, by decide +kernel⟩
abbrev s__law_digit : Stmt := top 27
theorem sc__law_digit : FnScope ["_law_pot_here", "_law_many", "_law_digit_here"] ["_law_pot_here", "_law_many"] (defScope s__law_digit) := ⟨rfl, rfl, rfl, by decide +kernel, rfl, by decide +kernel, by decide +kernel⟩
abbrev s__law_pick : Stmt := top 28
theorem sc__law_pick : FnScope ["_law_pot_here", "_law_some"] ["_law_pot_here", "_law_some"] (defScope s__law_pick) := ⟨rfl, rfl, rfl, by decide +kernel, rfl, by decide +kernel, by decide +kernel⟩
abbrev s__law_queue : Stmt := top 29
theorem sc__law_queue : FnScope ["_law_pot_here", "_law_begin"] ["_law_pot_here"] (defScope s__law_queue) := ⟨rfl, rfl, rfl, by decide +kernel, rfl, by decide +kernel, by decide +kernel⟩
abbrev s__law_next : Stmt := top 30
theorem sc__law_next : FnScope ["_law_pot_here", "_law_queue_here", "_law_newest", "_law_first"] ["_law_pot_here", "_law_queue_here"] (defScope s__law_next) := ⟨rfl, rfl, rfl, by decide +kernel, rfl, by decide +kernel, by decide +kernel⟩
abbrev s__law_call : Stmt := top 31
theorem sc__law_call : FnScope ["_law_pot_here", "_law_queue_here", "_law_way", "_law_first", "_law_goal", "_law_waits"] ["_law_pot_here", "_law_queue_here"] (defScope s__law_call) := ⟨rfl, rfl, rfl, by decide +kernel, rfl, by decide +kernel, by decide +kernel⟩
abbrev s__law_called : Stmt := top 32
theorem sc__law_called : FnScope ["_law_way", "_law_queue_here", "_law_one", "_law_other"] ["_law_way", "_law_queue_here", "_law_one", "_law_other"] (defScope s__law_called) := ⟨rfl, rfl, rfl, by decide +kernel, rfl, by decide +kernel, by decide +kernel⟩
abbrev s__law_told : Stmt := top 33
theorem sc__law_told : FnScope ["_law_way", "_law_queue_here", "_law_one", "_law_other", "e", "_law_kinds"] ["_law_way", "_law_queue_here", "_law_one", "_law_other"] (defScope s__law_told) := ⟨rfl, rfl, rfl, by decide +kernel, rfl, by decide +kernel, by decide +kernel⟩
abbrev s__law_bad : Stmt := top 34
theorem sc__law_bad : FnScope ["_law_pot_here"] ["_law_pot_here"] (defScope s__law_bad) := ⟨rfl, rfl, rfl, by decide +kernel, rfl, by decide +kernel, by decide +kernel⟩
abbrev s__law_refused_right : Stmt := top 35
theorem sc__law_refused_right : FnScope ["_law_pot_here", "_law_queue_here", "_law_newest", "_law_bound", "_law_bad_here", "_law_good", "_law_low", "_law_rows", "_law_mark", "_law_way", "_law_one", "_law_other", "_law_due", "_law_row"] ["_law_pot_here", "_law_queue_here"] (defScope s__law_refused_right) := ⟨rfl, rfl, rfl, by decide +kernel, rfl, by decide +kernel, by decide +kernel⟩
abbrev s__law_state : Stmt := top 36
theorem sc__law_state : FnScope ["_law_queue_here", "_law_found", "_law_drops", "_law_k", "_law_lags"] ["_law_queue_here"] (defScope s__law_state) := ⟨rfl, rfl, rfl, by decide +kernel, rfl, by decide +kernel, by decide +kernel⟩
abbrev s__law_written : Stmt := top 37
theorem sc__law_written : FnScope ["_law_queue_here", "_law_numbers"] ["_law_queue_here"] (defScope s__law_written) := ⟨rfl, rfl, rfl, by decide +kernel, rfl, by decide +kernel, by decide +kernel⟩
abbrev s__law_others : Stmt := top 38
theorem sc__law_others : FnScope ["_law_queue_here", "_law_found", "_law_pushed", "_law_gone", "_law_newest"] ["_law_queue_here"] (defScope s__law_others) := ⟨rfl, rfl, rfl, by decide +kernel, rfl, by decide +kernel, by decide +kernel⟩
abbrev s__law_copies_right : Stmt := top 39
theorem sc__law_copies_right : FnScope ["_law_queue_here", "_law_state_here", "_law_one", "_law_other", "_law_newest", "_law_first", "_law_is_alone"] ["_law_queue_here"] (defScope s__law_copies_right) := ⟨rfl, rfl, rfl, by decide +kernel, rfl, by decide +kernel, by decide +kernel⟩
abbrev s__law_goes_on : Stmt := top 40
theorem sc__law_goes_on : FnScope ["_law_queue_here", "_law_twin", "_law_newest", "_law_first", "_law_waits", "_law_shown", "_law_some", "_law_one"] ["_law_queue_here", "_law_twin"] (defScope s__law_goes_on) := ⟨rfl, rfl, rfl, by decide +kernel, rfl, by decide +kernel, by decide +kernel⟩
abbrev s__law_right : Stmt := top 41
theorem sc__law_right : FnScope ["_law_pot_here", "_law_kept", "_law_queue_here", "_law_turn", "_law_twin", "_law_state_here", "_law_one", "_law_some"] ["_law_pot_here"] (defScope s__law_right) := ⟨rfl, rfl, rfl, by decide +kernel, rfl, by decide +kernel, by decide +kernel⟩
abbrev s_law : Stmt := top 42
theorem sc_law : FnScope ["_law_script", "_law_k"] ["_law_script"] (defScope s_law) := ⟨rfl, rfl, rfl, by decide +kernel, rfl, by decide +kernel, by decide +kernel⟩
abbrev s_OutOfOrder___init__ : Stmt := inClass (top 5) 0
theorem sc_OutOfOrder___init__ : FnScope ["self", "version", "bound"] ["self", "version", "bound"] (defScope s_OutOfOrder___init__) := ⟨rfl, rfl, rfl, by decide +kernel, rfl, by decide +kernel, by decide +kernel⟩
abbrev s_NotRemembered___init__ : Stmt := inClass (top 6) 0
theorem sc_NotRemembered___init__ : FnScope ["self", "version"] ["self", "version"] (defScope s_NotRemembered___init__) := ⟨rfl, rfl, rfl, by decide +kernel, rfl, by decide +kernel, by decide +kernel⟩
abbrev s_Arrivals___init__ : Stmt := inClass (top 23) 0
theorem sc_Arrivals___init__ : FnScope ["self", "mark", "waiting", "low", "high"] ["self", "mark", "waiting", "low", "high"] (defScope s_Arrivals___init__) := ⟨rfl, rfl, rfl, by decide +kernel, rfl, by decide +kernel, by decide +kernel⟩
abbrev s_Arrivals_after : Stmt := inClass (top 23) 1
theorem sc_Arrivals_after : FnScope ["self", "version", "capacity"] ["self", "version", "capacity"] (defScope s_Arrivals_after) := ⟨rfl, rfl, rfl, by decide +kernel, rfl, by decide +kernel, by decide +kernel⟩
abbrev s_Arrivals_does_hold : Stmt := inClass (top 23) 2
theorem sc_Arrivals_does_hold : FnScope ["self", "version"] ["self", "version"] (defScope s_Arrivals_does_hold) := ⟨rfl, rfl, rfl, by decide +kernel, rfl, by decide +kernel, by decide +kernel⟩
abbrev s_Arrivals_drop : Stmt := inClass (top 23) 3
theorem sc_Arrivals_drop : FnScope ["self", "version", "capacity", "present", "absent", "middle", "others", "other"] ["self", "version", "capacity"] (defScope s_Arrivals_drop) := ⟨rfl, rfl, rfl, by decide +kernel, rfl, by decide +kernel, by decide +kernel⟩
abbrev s_Queue___init__ : Stmt := inClass (top 24) 0
theorem sc_Queue___init__ : FnScope ["self", "capacity", "start"] ["self", "capacity", "start"] (defScope s_Queue___init__) := ⟨rfl, rfl, rfl, by decide +kernel, rfl, by decide +kernel, by decide +kernel⟩
abbrev s_Queue_capacity : Stmt := inClass (top 24) 1
theorem sc_Queue_capacity : FnScope ["self"] ["self"] (defScope s_Queue_capacity) := ⟨rfl, rfl, rfl, by decide +kernel, rfl, by decide +kernel, by decide +kernel⟩
abbrev s_Queue_start : Stmt := inClass (top 24) 2
theorem sc_Queue_start : FnScope ["self"] ["self"] (defScope s_Queue_start) := ⟨rfl, rfl, rfl, by decide +kernel, rfl, by decide +kernel, by decide +kernel⟩
abbrev s_Queue_passed : Stmt := inClass (top 24) 3
theorem sc_Queue_passed : FnScope ["self"] ["self"] (defScope s_Queue_passed) := ⟨rfl, rfl, rfl, by decide +kernel, rfl, by decide +kernel, by decide +kernel⟩
abbrev s_Queue_newest : Stmt := inClass (top 24) 4
theorem sc_Queue_newest : FnScope ["self"] ["self"] (defScope s_Queue_newest) := ⟨rfl, rfl, rfl, by decide +kernel, rfl, by decide +kernel, by decide +kernel⟩
abbrev s_Queue_waiting : Stmt := inClass (top 24) 5
theorem sc_Queue_waiting : FnScope ["self"] ["self"] (defScope s_Queue_waiting) := ⟨rfl, rfl, rfl, by decide +kernel, rfl, by decide +kernel, by decide +kernel⟩
abbrev s_Queue_arrival_bound : Stmt := inClass (top 24) 6
theorem sc_Queue_arrival_bound : FnScope ["self"] ["self"] (defScope s_Queue_arrival_bound) := ⟨rfl, rfl, rfl, by decide +kernel, rfl, by decide +kernel, by decide +kernel⟩
abbrev s_Queue_arrive : Stmt := inClass (top 24) 7
theorem sc_Queue_arrive : FnScope ["self", "low", "high"] ["self", "low", "high"] (defScope s_Queue_arrive) := ⟨rfl, rfl, rfl, by decide +kernel, rfl, by decide +kernel, by decide +kernel⟩
abbrev s_Queue_push : Stmt := inClass (top 24) 8
theorem sc_Queue_push : FnScope ["self", "version", "waited", "dropped", "other"] ["self", "version"] (defScope s_Queue_push) := ⟨rfl, rfl, rfl, by decide +kernel, rfl, by decide +kernel, by decide +kernel⟩
abbrev s_Queue_push_range : Stmt := inClass (top 24) 9
theorem sc_Queue_push_range : FnScope ["self", "low", "high"] ["self", "low", "high"] (defScope s_Queue_push_range) := ⟨rfl, rfl, rfl, by decide +kernel, rfl, by decide +kernel, by decide +kernel⟩
abbrev s_Queue_advance : Stmt := inClass (top 24) 10
theorem sc_Queue_advance : FnScope ["self", "version", "other"] ["self", "version"] (defScope s_Queue_advance) := ⟨rfl, rfl, rfl, by decide +kernel, rfl, by decide +kernel, by decide +kernel⟩
abbrev s_Queue_lag : Stmt := inClass (top 24) 11
theorem sc_Queue_lag : FnScope ["self"] ["self"] (defScope s_Queue_lag) := ⟨rfl, rfl, rfl, by decide +kernel, rfl, by decide +kernel, by decide +kernel⟩
abbrev s_Queue_greatest_lag : Stmt := inClass (top 24) 12
theorem sc_Queue_greatest_lag : FnScope ["self"] ["self"] (defScope s_Queue_greatest_lag) := ⟨rfl, rfl, rfl, by decide +kernel, rfl, by decide +kernel, by decide +kernel⟩
abbrev s_Queue_forecast : Stmt := inClass (top 24) 13
theorem sc_Queue_forecast : FnScope ["self", "count", "low"] ["self", "count"] (defScope s_Queue_forecast) := ⟨rfl, rfl, rfl, by decide +kernel, rfl, by decide +kernel, by decide +kernel⟩
abbrev s_Queue_arrived : Stmt := inClass (top 24) 14
theorem sc_Queue_arrived : FnScope ["self", "version", "call"] ["self", "version"] (defScope s_Queue_arrived) := ⟨rfl, rfl, rfl, by decide +kernel, rfl, by decide +kernel, by decide +kernel⟩
abbrev s_Queue_drop_of : Stmt := inClass (top 24) 15
theorem sc_Queue_drop_of : FnScope ["self", "version", "mark", "waiting", "call", "other", "arrivals"] ["self", "version"] (defScope s_Queue_drop_of) := ⟨rfl, rfl, rfl, by decide +kernel, rfl, by decide +kernel, by decide +kernel⟩
abbrev s_Queue_copy : Stmt := inClass (top 24) 16
theorem sc_Queue_copy : FnScope ["self", "found"] ["self"] (defScope s_Queue_copy) := ⟨rfl, rfl, rfl, by decide +kernel, rfl, by decide +kernel, by decide +kernel⟩
abbrev s_Queue_state : Stmt := inClass (top 24) 17
theorem sc_Queue_state : FnScope ["self"] ["self"] (defScope s_Queue_state) := ⟨rfl, rfl, rfl, by decide +kernel, rfl, by decide +kernel, by decide +kernel⟩
abbrev s_Queue___eq__ : Stmt := inClass (top 24) 18
theorem sc_Queue___eq__ : FnScope ["self", "other"] ["self", "other"] (defScope s_Queue___eq__) := ⟨rfl, rfl, rfl, by decide +kernel, rfl, by decide +kernel, by decide +kernel⟩
abbrev s_Queue___len__ : Stmt := inClass (top 24) 19
theorem sc_Queue___len__ : FnScope ["self"] ["self"] (defScope s_Queue___len__) := ⟨rfl, rfl, rfl, by decide +kernel, rfl, by decide +kernel, by decide +kernel⟩
abbrev s_Queue___repr__ : Stmt := inClass (top 24) 20
theorem sc_Queue___repr__ : FnScope ["self", "numbers"] ["self"] (defScope s_Queue___repr__) := ⟨rfl, rfl, rfl, by decide +kernel, rfl, by decide +kernel, by decide +kernel⟩
structure All (K : PySem.W.Frag) (mg : Str → Option Value) where
  is_int : Def K mg "is_int" s_is_int ["value"]
  is_version : Def K mg "is_version" s_is_version ["value"]
  want_version : Def K mg "want_version" s_want_version ["value"]
  want_number : Def K mg "want_number" s_want_number ["value", "least"]
  lowest_bit : Def K mg "lowest_bit" s_lowest_bit ["version"]
  precedes : Def K mg "precedes" s_precedes ["version", "other"]
  odd_multiples : Def K mg "odd_multiples" s_odd_multiples ["low", "high", "power", "count"]
  strongest : Def K mg "strongest" s_strongest ["low", "high", "count"]
  want_capacity : Def K mg "want_capacity" s_want_capacity ["capacity"]
  weakest : Def K mg "weakest" s_weakest ["versions"]
  after_range : Def K mg "after_range" s_after_range ["waiting", "low", "high", "capacity"]
  _law_pot : Def K mg "_law_pot" s__law_pot ["_law_script", "_law_k"]
  _law_digit : Def K mg "_law_digit" s__law_digit ["_law_pot_here", "_law_many"]
  _law_pick : Def K mg "_law_pick" s__law_pick ["_law_pot_here", "_law_some"]
  _law_queue : Def K mg "_law_queue" s__law_queue ["_law_pot_here"]
  _law_next : Def K mg "_law_next" s__law_next ["_law_pot_here", "_law_queue_here"]
  _law_call : Def K mg "_law_call" s__law_call ["_law_pot_here", "_law_queue_here"]
  _law_called : Def K mg "_law_called" s__law_called ["_law_way", "_law_queue_here", "_law_one", "_law_other"]
  _law_told : Def K mg "_law_told" s__law_told ["_law_way", "_law_queue_here", "_law_one", "_law_other"]
  _law_bad : Def K mg "_law_bad" s__law_bad ["_law_pot_here"]
  _law_refused_right : Def K mg "_law_refused_right" s__law_refused_right ["_law_pot_here", "_law_queue_here"]
  _law_state : Def K mg "_law_state" s__law_state ["_law_queue_here"]
  _law_written : Def K mg "_law_written" s__law_written ["_law_queue_here"]
  _law_others : Def K mg "_law_others" s__law_others ["_law_queue_here"]
  _law_copies_right : Def K mg "_law_copies_right" s__law_copies_right ["_law_queue_here"]
  _law_goes_on : Def K mg "_law_goes_on" s__law_goes_on ["_law_queue_here", "_law_twin"]
  _law_right : Def K mg "_law_right" s__law_right ["_law_pot_here"]
  law : Def K mg "law" s_law ["_law_script"]
  LEAST_CAPACITY_g : ∃ t, mg "LEAST_CAPACITY" = some (.int 2 t)
  MOST_CAPACITY_g : ∃ t, mg "MOST_CAPACITY" = some (.int 9 t)
  InvalidVersion : Addr
  InvalidVersion_g : mg "InvalidVersion" = some (.ref InvalidVersion)
  InvalidVersion_e : ErrC K mg "InvalidVersion" InvalidVersion
  InvalidVersion_x : ExcC K InvalidVersion
  InvalidNumber : Addr
  InvalidNumber_g : mg "InvalidNumber" = some (.ref InvalidNumber)
  InvalidNumber_e : ErrC K mg "InvalidNumber" InvalidNumber
  InvalidNumber_x : ExcC K InvalidNumber
  InvalidCapacity : Addr
  InvalidCapacity_g : mg "InvalidCapacity" = some (.ref InvalidCapacity)
  InvalidCapacity_e : ErrC K mg "InvalidCapacity" InvalidCapacity
  InvalidCapacity_x : ExcC K InvalidCapacity
  OutOfOrder : Addr
  OutOfOrder_g : mg "OutOfOrder" = some (.ref OutOfOrder)
  OutOfOrder_f : XfC K OutOfOrder
  OutOfOrder_o : OwE K OutOfOrder "ValueError" "ValueError.__new__" "ValueError.__init__" [.type "ValueError", .type "Exception", .type "BaseException", .type "object"]
  OutOfOrder_nf_version : PySem.W.findIn K (.ref OutOfOrder) "version" = some none
  OutOfOrder_nf_bound : PySem.W.findIn K (.ref OutOfOrder) "bound" = some none
  NotRemembered : Addr
  NotRemembered_g : mg "NotRemembered" = some (.ref NotRemembered)
  NotRemembered_x : ExcC K NotRemembered
  NotRemembered_o : OwE K NotRemembered "KeyError" "LookupError.__new__" "KeyError.__init__" [.type "KeyError", .type "LookupError", .type "Exception", .type "BaseException", .type "object"]
  NotRemembered_nf_version : PySem.W.findIn K (.ref NotRemembered) "version" = some none
  SamplingError : Addr
  SamplingError_g : mg "SamplingError" = some (.ref SamplingError)
  SamplingError_ga : PySem.W.specialIn K (.ref SamplingError) "__getattribute__" = some (some (.builtin "type.__getattribute__"))
  SamplingError_rd : PySem.W.readsIn K SamplingError (.type "type") = true
  SamplingError_vi : PySem.W.findCls K (.ref SamplingError) (.type "type") "__init__" = some (.val (.builtin "ValueError.__init__"))
  KeyError_vi : PySem.W.findCls K (.type "KeyError") (.type "type") "__init__" = some (.val (.builtin "KeyError.__init__"))
  m_OutOfOrder_OutOfOrder : PySem.W.exmOne K (.ref OutOfOrder) (.ref OutOfOrder) = some true
  m_InvalidCapacity_OutOfOrder : PySem.W.exmOne K (.ref InvalidCapacity) (.ref OutOfOrder) = some false
  m_InvalidCapacity_SamplingError : PySem.W.exmOne K (.ref InvalidCapacity) (.ref SamplingError) = some true
  m_InvalidNumber_OutOfOrder : PySem.W.exmOne K (.ref InvalidNumber) (.ref OutOfOrder) = some false
  m_InvalidNumber_SamplingError : PySem.W.exmOne K (.ref InvalidNumber) (.ref SamplingError) = some true
  m_InvalidVersion_OutOfOrder : PySem.W.exmOne K (.ref InvalidVersion) (.ref OutOfOrder) = some false
  m_InvalidVersion_SamplingError : PySem.W.exmOne K (.ref InvalidVersion) (.ref SamplingError) = some true
  i_InvalidCapacity_InvalidCapacity : PySem.W.kitOne K (.ref InvalidCapacity) (.ref InvalidCapacity) = some true
  i_InvalidCapacity_InvalidNumber : PySem.W.kitOne K (.ref InvalidCapacity) (.ref InvalidNumber) = some false
  i_InvalidCapacity_InvalidVersion : PySem.W.kitOne K (.ref InvalidCapacity) (.ref InvalidVersion) = some false
  i_InvalidNumber_InvalidCapacity : PySem.W.kitOne K (.ref InvalidNumber) (.ref InvalidCapacity) = some false
  i_InvalidNumber_InvalidNumber : PySem.W.kitOne K (.ref InvalidNumber) (.ref InvalidNumber) = some true
  i_InvalidNumber_InvalidVersion : PySem.W.kitOne K (.ref InvalidNumber) (.ref InvalidVersion) = some false
  i_InvalidVersion_InvalidCapacity : PySem.W.kitOne K (.ref InvalidVersion) (.ref InvalidCapacity) = some false
  i_InvalidVersion_InvalidNumber : PySem.W.kitOne K (.ref InvalidVersion) (.ref InvalidNumber) = some false
  i_InvalidVersion_InvalidVersion : PySem.W.kitOne K (.ref InvalidVersion) (.ref InvalidVersion) = some true
  Queue : Addr
  Queue_c : Cls K Queue
  Queue_k : MkC K mg "Queue" Queue
  Queue_g : mg "Queue" = some (.ref Queue)
  Queue_is : C8.InsC K Queue
  Queue_ne : NeC K Queue
  Queue_n_size : NoAttr K Queue "size"
  Queue_n_first : NoAttr K Queue "first"
  Queue_n_mark : NoAttr K Queue "mark"
  Queue_n_latest : NoAttr K Queue "latest"
  Queue_n_kept : NoAttr K Queue "kept"
  Queue_n_most_lag : NoAttr K Queue "most_lag"
  Queue_n_calls : NoAttr K Queue "calls"
  Arrivals : Addr
  Arrivals_c : Cls K Arrivals
  Arrivals_k : MkC K mg "Arrivals" Arrivals
  Arrivals_g : mg "Arrivals" = some (.ref Arrivals)
  Arrivals_n_mark : NoAttr K Arrivals "mark"
  Arrivals_n_waited : NoAttr K Arrivals "waited"
  Arrivals_n_low : NoAttr K Arrivals "low"
  Arrivals_n_high : NoAttr K Arrivals "high"
  Queue_state : DefM K Queue "state" "Queue.state" s_Queue_state ["self"]
  Queue___eq__ : DefM K Queue "__eq__" "Queue.__eq__" s_Queue___eq__ ["self", "other"]
  Queue___len__ : DefM K Queue "__len__" "Queue.__len__" s_Queue___len__ ["self"]
  Queue___repr__ : DefM K Queue "__repr__" "Queue.__repr__" s_Queue___repr__ ["self"]
  Queue___init__ : DefMK K Queue "__init__" "Queue.__init__" s_Queue___init__ [("start", .int 0)]
  Queue_capacity : DefM K Queue "capacity" "Queue.capacity" s_Queue_capacity ["self"]
  Queue_start : DefM K Queue "start" "Queue.start" s_Queue_start ["self"]
  Queue_passed : DefM K Queue "passed" "Queue.passed" s_Queue_passed ["self"]
  Queue_newest : DefM K Queue "newest" "Queue.newest" s_Queue_newest ["self"]
  Queue_waiting : DefM K Queue "waiting" "Queue.waiting" s_Queue_waiting ["self"]
  Arrivals___init__ : DefM K Arrivals "__init__" "Arrivals.__init__" s_Arrivals___init__ ["self", "mark", "waiting", "low", "high"]
  Arrivals_after : DefM K Arrivals "after" "Arrivals.after" s_Arrivals_after ["self", "version", "capacity"]
  Arrivals_does_hold : DefM K Arrivals "does_hold" "Arrivals.does_hold" s_Arrivals_does_hold ["self", "version"]
  Arrivals_drop : DefM K Arrivals "drop" "Arrivals.drop" s_Arrivals_drop ["self", "version", "capacity"]
  Queue_drop_of : DefM K Queue "drop_of" "Queue.drop_of" s_Queue_drop_of ["self", "version"]
  Queue_lag : DefM K Queue "lag" "Queue.lag" s_Queue_lag ["self"]
  Queue_greatest_lag : DefM K Queue "greatest_lag" "Queue.greatest_lag" s_Queue_greatest_lag ["self"]
  Queue_arrival_bound : DefM K Queue "arrival_bound" "Queue.arrival_bound" s_Queue_arrival_bound ["self"]
  OutOfOrder___init__ : DefM K OutOfOrder "__init__" "OutOfOrder.__init__" s_OutOfOrder___init__ ["self", "version", "bound"]
  Queue_arrive : DefM K Queue "arrive" "Queue.arrive" s_Queue_arrive ["self", "low", "high"]
  Queue_push_range : DefM K Queue "push_range" "Queue.push_range" s_Queue_push_range ["self", "low", "high"]
  Queue_arrived : DefM K Queue "arrived" "Queue.arrived" s_Queue_arrived ["self", "version"]
  Queue_push : DefM K Queue "push" "Queue.push" s_Queue_push ["self", "version"]
  Queue_advance : DefM K Queue "advance" "Queue.advance" s_Queue_advance ["self", "version"]
  NotRemembered___init__ : DefM K NotRemembered "__init__" "NotRemembered.__init__" s_NotRemembered___init__ ["self", "version"]
  Queue_forecast : DefM K Queue "forecast" "Queue.forecast" s_Queue_forecast ["self", "count"]
  Queue_copy : DefM K Queue "copy" "Queue.copy" s_Queue_copy ["self"]
  Queue_hd : PySem.W.hasDictIn K Queue = true
  Queue_ty : PySem.W.typeIn K (.ref Queue) = some (.type "type")
  Queue_nt_NoneType : PySem.W.subIn K (.type "NoneType") (.ref Queue) = some false
  Queue_nt_bool : PySem.W.subIn K (.type "bool") (.ref Queue) = some false
  Queue_nt_int : PySem.W.subIn K (.type "int") (.ref Queue) = some false
  Queue_nt_str : PySem.W.subIn K (.type "str") (.ref Queue) = some false
  Queue_nt_list : PySem.W.subIn K (.type "list") (.ref Queue) = some false
  Queue_nt_tuple : PySem.W.subIn K (.type "tuple") (.ref Queue) = some false
  Queue_nt_dict : PySem.W.subIn K (.type "dict") (.ref Queue) = some false
  Queue_ne_NotRemembered : PySem.W.subIn K (.ref NotRemembered) (.ref Queue) = some false
  Queue_dq_NotRemembered : (NotRemembered == Queue) = false
  n_KeyError : mg "KeyError" = none
  n_ValueError : mg "ValueError" = none
  n_abs : mg "abs" = none
  n_all : mg "all" = none
  n_any : mg "any" = none
  n_bool : mg "bool" = none
  n_divmod : mg "divmod" = none
  n_int : mg "int" = none
  n_isinstance : mg "isinstance" = none
  n_len : mg "len" = none
  n_list : mg "list" = none
  n_max : mg "max" = none
  n_min : mg "min" = none
  n_range : mg "range" = none
  n_repr : mg "repr" = none
  n_sorted : mg "sorted" = none
  n_str : mg "str" = none
  n_tuple : mg "tuple" = none
section
variable {P : Program} {w : World} {K : PySem.W.Frag} {mg : Str → Option Value} {base : Heap}
def t_Queue_state (T : All K mg) : RS :=
 zRet (rTup (aCons (rFld T.Queue "size" (rVar 0)) (aCons (rFld T.Queue "first" (rVar 0)) (aCons (rFld T.Queue "mark" (rVar 0)) (aCons (rFld T.Queue "latest" (rVar 0)) (aCons (rFld T.Queue "kept" (rVar 0)) aNil))))))
@[irreducible] def sp_Queue_state (T : All K mg) : Sp := rFn 1 ["self"] (t_Queue_state T)
theorem fng_Queue_state (T : All K mg) : FnG P w K mg base 1 T.Queue_state.f T.Queue_state.fd ["self"] (sp_Queue_state T) := by
 delta sp_Queue_state; exact T.Queue_state.rfng sc_Queue_state fun cd A outer s H1 E1 =>
 (z_one (z_ret (s_tup (a_cons (s_fld T.Queue_c T.Queue_n_size (s_var (i := 0) rfl (.inl rfl))) (a_cons (s_fld T.Queue_c T.Queue_n_first (s_var (i := 0) rfl (.inl rfl))) (a_cons (s_fld T.Queue_c T.Queue_n_mark (s_var (i := 0) rfl (.inl rfl))) (a_cons (s_fld T.Queue_c T.Queue_n_latest (s_var (i := 0) rfl (.inl rfl))) (a_cons (s_fld T.Queue_c T.Queue_n_kept (s_var (i := 0) rfl (.inl rfl))) a_nil))))))))
theorem ok_Queue_state (T : All K mg) : CalM P w K mg base T.Queue "state" 1 ["self"] [] (sp_Queue_state T) := ⟨_, _, [], fng_Queue_state T, T.Queue_state.mt, T.Queue_state.b, .nil⟩
def t_Queue___eq__ (T : All K mg) : RS :=
 zRet (rAnd (rB (cIsAny K T.Queue) (aCons (rVar 1) (aCons (rC (.ref T.Queue)) aNil))) (rBin (oEqD K) (rMeth T.Queue "state" (sp_Queue_state T) [] (rVar 0) aNil) (rMeth T.Queue "state" (sp_Queue_state T) [] (rVar 1) aNil)))
@[irreducible] def sp_Queue___eq__ (T : All K mg) : Sp := rFn 2 ["self", "other"] (t_Queue___eq__ T)
theorem fng_Queue___eq__ (T : All K mg) : FnG P w K mg base 2 T.Queue___eq__.f T.Queue___eq__.fd ["self", "other"] (sp_Queue___eq__ T) := by
 delta sp_Queue___eq__; exact T.Queue___eq__.rfng sc_Queue___eq__ fun cd A outer s H1 E1 =>
 (z_one (z_ret (s_and (s_bi c_isAny T.n_isinstance PyProof.Rows.boot_isinstance (a_cons (s_var (i := 1) rfl (.inl rfl)) (a_cons (s_glob T.Queue_g rfl) a_nil))) (s_one (s_cmpr2 o_eqD (s_meth0 T.Queue_c (ok_Queue_state T) (s_var (i := 0) rfl (.inl rfl))) (s_meth0 T.Queue_c (ok_Queue_state T) (s_var (i := 1) rfl (.inl rfl))))))))
theorem ok_Queue___eq__ (T : All K mg) : CalM P w K mg base T.Queue "__eq__" 2 ["self", "other"] [] (sp_Queue___eq__ T) := ⟨_, _, [], fng_Queue___eq__ T, T.Queue___eq__.mt, T.Queue___eq__.b, .nil⟩
def t_Queue___len__ (T : All K mg) : RS :=
 zRet (rB (cLenL K) (aCons (rFld T.Queue "kept" (rVar 0)) aNil))
@[irreducible] def sp_Queue___len__ (T : All K mg) : Sp := rFn 1 ["self"] (t_Queue___len__ T)
theorem fng_Queue___len__ (T : All K mg) : FnG P w K mg base 1 T.Queue___len__.f T.Queue___len__.fd ["self"] (sp_Queue___len__ T) := by
 delta sp_Queue___len__; exact T.Queue___len__.rfng sc_Queue___len__ fun cd A outer s H1 E1 =>
 (z_one (z_ret (s_bi c_lenL T.n_len PySem.boot_len (a_cons (s_fld T.Queue_c T.Queue_n_kept (s_var (i := 0) rfl (.inl rfl))) a_nil))))
theorem ok_Queue___len__ (T : All K mg) : CalM P w K mg base T.Queue "__len__" 1 ["self"] [] (sp_Queue___len__ T) := ⟨_, _, [], fng_Queue___len__ T, T.Queue___len__.mt, T.Queue___len__.b, .nil⟩
def t_Queue___repr__ (T : All K mg) : RS :=
 zCons (zSet 1 (rJoin [rC (.str "capacity="), rFmtI (rFld T.Queue "size" (rVar 0)), rC (.str ", start="), rFmtI (rFld T.Queue "first" (rVar 0)), rC (.str ", passed="), rFmtI (rFld T.Queue "mark" (rVar 0)), rC (.str ", newest="), rFmtD K (rFld T.Queue "latest" (rVar 0))]))
 (zRet (rJoin [rC (.str "Queue("), rFmtI (rVar 1), rC (.str ", waiting="), rFmtD K (rFld T.Queue "kept" (rVar 0)), rC (.str ")")]))
@[irreducible] def sp_Queue___repr__ (T : All K mg) : Sp := rFn 1 ["self", "numbers"] (t_Queue___repr__ T)
theorem fng_Queue___repr__ (T : All K mg) : FnG P w K mg base 1 T.Queue___repr__.f T.Queue___repr__.fd ["self"] (sp_Queue___repr__ T) := by
 delta sp_Queue___repr__; exact T.Queue___repr__.rfng sc_Queue___repr__ fun cd A outer s H1 E1 =>
 (z_cons (z_set sc_Queue___repr__.nd rfl (s_join (.cons s_str (.cons (s_fmt (s_fld T.Queue_c T.Queue_n_size (s_var (i := 0) rfl (.inl rfl)))) (.cons s_str (.cons (s_fmt (s_fld T.Queue_c T.Queue_n_first (s_var (i := 0) rfl (.inl rfl)))) (.cons s_str (.cons (s_fmt (s_fld T.Queue_c T.Queue_n_mark (s_var (i := 0) rfl (.inl rfl)))) (.cons s_str (.cons (s_fmtD (s_fld T.Queue_c T.Queue_n_latest (s_var (i := 0) rfl (.inl rfl)))) SJ.nil))))))))))
 (z_one (z_ret (s_join (.cons s_str (.cons (s_fmt (s_var (i := 1) rfl (.inl rfl))) (.cons s_str (.cons (s_fmtD (s_fld T.Queue_c T.Queue_n_kept (s_var (i := 0) rfl (.inl rfl)))) (.cons s_str SJ.nil)))))))))
theorem ok_Queue___repr__ (T : All K mg) : CalM P w K mg base T.Queue "__repr__" 1 ["self"] [] (sp_Queue___repr__ T) := ⟨_, _, [], fng_Queue___repr__ T, T.Queue___repr__.mt, T.Queue___repr__.b, .nil⟩
def t__law_digit (T : All K mg) : RS :=
 zCons (zIf (tCmp oGt (rBin (oIxL K) (rVar 0) (rC (.int 0))) (rC (.int 0)))
 (zCons (zAsg (rB cDivmod (aCons (rBin (oIxL K) (rVar 0) (rC (.int 0))) (aCons (rVar 1) aNil))) (gTup K 2 (gCons (gIxL (rVar 0) (rC (.int 0))) (gCons (gName 2) gNil))))
 (zRet (rVar 2)))
 (zNil))
 (zCons (zAsg (rBin oMod (rBin oAdd (rBin oMul (rBin (oIxL K) (rVar 0) (rC (.int 1))) (rC (.int 48271))) (rC (.int 10037))) (rC (.int 2147483587))) (gIxL (rVar 0) (rC (.int 1))))
 (zRet (rBin oMod (rBin oDiv (rBin oMod (rBin oMul (rBin (oIxL K) (rVar 0) (rC (.int 1))) (rBin (oIxL K) (rVar 0) (rC (.int 1)))) (rC (.int 2147483563))) (rC (.int 5))) (rVar 1))))
@[irreducible] def sp__law_digit (T : All K mg) : Sp := rFn 2 ["_law_pot_here", "_law_many", "_law_digit_here"] (t__law_digit T)
theorem ok__law_digit (T : All K mg) : Cal P w K mg base "_law_digit" 1 ["_law_pot_here", "_law_many"] [] (sp__law_digit T) := by
 delta sp__law_digit; exact T._law_digit.rcal sc__law_digit fun cd A outer s H1 E1 =>
 (z_cons (z_if (b_cmp o_gt (s_ix x_lst (s_var (i := 0) rfl (.inl rfl)) s_int) s_int)
 (z_cons (z_asg (s_bi c_divmod T.n_divmod PyProof.Rows.boot_divmod (a_cons (s_ix x_lst (s_var (i := 0) rfl (.inl rfl)) s_int) (a_cons (s_var (i := 1) rfl (.inl rfl)) a_nil))) (g_tup (gs_cons (g_ixL (s_var (i := 0) rfl (.inl rfl)) s_int) (gs_cons (g_name sc__law_digit.nd rfl) gs_nil))))
 (z_one (z_ret (s_var (i := 2) rfl (.inl rfl)))))
 z_nil)
 (z_cons (z_asg (s_bin o_mod (s_bin o_add (s_bin o_mul (s_ix x_lst (s_var (i := 0) rfl (.inl rfl)) s_int) s_int) s_int) s_int) (g_ixL (s_var (i := 0) rfl (.inl rfl)) s_int))
 (z_one (z_ret (s_bin o_mod (s_bin o_div (s_bin o_mod (s_bin o_mul (s_ix x_lst (s_var (i := 0) rfl (.inl rfl)) s_int) (s_ix x_lst (s_var (i := 0) rfl (.inl rfl)) s_int)) s_int) s_int) (s_var (i := 1) rfl (.inl rfl)))))))
def t__law_pick (T : All K mg) : RS :=
 zRet (rBin (oIxL K) (rVar 1) (rCall (sp__law_digit T) [] (aCons (rVar 0) (aCons (rB (cLenL K) (aCons (rVar 1) aNil)) aNil))))
@[irreducible] def sp__law_pick (T : All K mg) : Sp := rFn 2 ["_law_pot_here", "_law_some"] (t__law_pick T)
theorem ok__law_pick (T : All K mg) : Cal P w K mg base "_law_pick" 2 ["_law_pot_here", "_law_some"] [] (sp__law_pick T) := by
 delta sp__law_pick; exact T._law_pick.rcal sc__law_pick fun cd A outer s H1 E1 =>
 (z_one (z_ret (s_ix x_lst (s_var (i := 1) rfl (.inl rfl)) (s_call (ok__law_digit T) (a_cons (s_var (i := 0) rfl (.inl rfl)) (a_cons (s_bi c_lenL T.n_len PySem.boot_len (a_cons (s_var (i := 1) rfl (.inl rfl)) a_nil)) a_nil))))))
def t_is_int (T : All K mg) : RS :=
 zRet (rAnd (rB cIsT (aCons (rVar 0) (aCons (rC (.ty "int")) aNil))) (rNot (rB cIsT (aCons (rVar 0) (aCons (rC (.ty "bool")) aNil)))))
@[irreducible] def sp_is_int (T : All K mg) : Sp := rFn 1 ["value"] (t_is_int T)
theorem ok_is_int (T : All K mg) : Cal P w K mg base "is_int" 1 ["value"] [] (sp_is_int T) := by
 delta sp_is_int; exact T.is_int.rcal sc_is_int fun cd A outer s H1 E1 =>
 (z_one (z_ret (s_and (s_bi c_isT T.n_isinstance PyProof.Rows.boot_isinstance (a_cons (s_var (i := 0) rfl (.inl rfl)) (a_cons (s_ty T.n_int PyProof.Rows.boot_int) a_nil))) (s_one (s_not (s_bi c_isT T.n_isinstance PyProof.Rows.boot_isinstance (a_cons (s_var (i := 0) rfl (.inl rfl)) (a_cons (s_ty T.n_bool PyProof.Rows.boot_bool) a_nil))))))))
def t_want_capacity (T : All K mg) : RS :=
 zIf (tOr (tNot (tV (rCall (sp_is_int T) [] (aCons (rVar 0) aNil)))) (tNot (tCh oLe oLe (rC (.int 2)) (rVar 0) (rC (.int 9)))))
 (zRaise T.InvalidCapacity (aCons (rC (.str "a capacity must be an integer from 2 to 9")) aNil))
 (zNil)
@[irreducible] def sp_want_capacity (T : All K mg) : Sp := rFn 1 ["capacity"] (t_want_capacity T)
theorem ok_want_capacity (T : All K mg) : Cal P w K mg base "want_capacity" 2 ["capacity"] [] (sp_want_capacity T) := by
 delta sp_want_capacity; exact T.want_capacity.rcal sc_want_capacity fun cd A outer s H1 E1 =>
 (z_one (z_if (b_ww (w_or (b_not (b_val (s_call (ok_is_int T) (a_cons (s_var (i := 0) rfl (.inl rfl)) a_nil)))) (w_or1 (b_not (b_ch o_le o_le (s_globE (f := Value.int 2) T.LEAST_CAPACITY_g fun _ => ⟨_, rfl⟩) (s_var (i := 0) rfl (.inl rfl)) (s_globE (f := Value.int 9) T.MOST_CAPACITY_g fun _ => ⟨_, rfl⟩))))))
 (z_one (z_raise T.InvalidCapacity_e (a_cons s_str a_nil)))
 z_nil))
def t_is_version (T : All K mg) : RS :=
 zRet (rAnd (rCall (sp_is_int T) [] (aCons (rVar 0) aNil)) (rBin oGe (rVar 0) (rC (.int 0))))
@[irreducible] def sp_is_version (T : All K mg) : Sp := rFn 1 ["value"] (t_is_version T)
theorem ok_is_version (T : All K mg) : Cal P w K mg base "is_version" 2 ["value"] [] (sp_is_version T) := by
 delta sp_is_version; exact T.is_version.rcal sc_is_version fun cd A outer s H1 E1 =>
 (z_one (z_ret (s_and (s_call (ok_is_int T) (a_cons (s_var (i := 0) rfl (.inl rfl)) a_nil)) (s_one (s_cmp o_ge (s_var (i := 0) rfl (.inl rfl)) s_int)))))
def t_want_version (T : All K mg) : RS :=
 zIf (tNot (tV (rCall (sp_is_version T) [] (aCons (rVar 0) aNil))))
 (zRaise T.InvalidVersion (aCons (rC (.str "a version is an integer that is at least 0")) aNil))
 (zNil)
@[irreducible] def sp_want_version (T : All K mg) : Sp := rFn 1 ["value"] (t_want_version T)
theorem ok_want_version (T : All K mg) : Cal P w K mg base "want_version" 3 ["value"] [] (sp_want_version T) := by
 delta sp_want_version; exact T.want_version.rcal sc_want_version fun cd A outer s H1 E1 =>
 (z_one (z_if (b_not (b_val (s_call (ok_is_version T) (a_cons (s_var (i := 0) rfl (.inl rfl)) a_nil))))
 (z_one (z_raise T.InvalidVersion_e (a_cons s_str a_nil)))
 z_nil))
def t_Queue___init__ (T : All K mg) : RS :=
 zCons (zExpr (rCall (sp_want_capacity T) [] (aCons (rVar 1) aNil)))
 (zCons (zExpr (rCall (sp_want_version T) [] (aCons (rVar 2) aNil)))
 (zCons (zFld T.Queue "size" (rVar 0) (rVar 1))
 (zCons (zFld T.Queue "first" (rVar 0) (rVar 2))
 (zCons (zFld T.Queue "mark" (rVar 0) (rBin oSub (rVar 2) (rC (.int 1))))
 (zCons (zFld T.Queue "latest" (rVar 0) (rC .non))
 (zCons (zFld T.Queue "kept" (rVar 0) (rLst (aNil)))
 (zCons (zFld T.Queue "most_lag" (rVar 0) (rC (.int 0)))
 (zFld T.Queue "calls" (rVar 0) (rLst (aNil))))))))))
@[irreducible] def sp_Queue___init__ (T : All K mg) : Sp := rFn 3 ["self", "capacity", "start"] (t_Queue___init__ T)
theorem fng_Queue___init__ (T : All K mg) : FnG P w K mg base 4 T.Queue___init__.f T.Queue___init__.fd ["self", "capacity", "start"] (sp_Queue___init__ T) := by
 delta sp_Queue___init__; exact T.Queue___init__.rfng sc_Queue___init__ fun cd A outer s H1 E1 =>
 (z_cons (z_expr (s_call (ok_want_capacity T) (a_cons (s_var (i := 1) rfl (.inl rfl)) a_nil)))
 (z_cons (z_expr (s_call (ok_want_version T) (a_cons (s_var (i := 2) rfl (.inl rfl)) a_nil)))
 (z_cons (z_fld T.Queue_c T.Queue_n_size (s_var (i := 0) rfl (.inl rfl)) (s_var (i := 1) rfl (.inl rfl)))
 (z_cons (z_fld T.Queue_c T.Queue_n_first (s_var (i := 0) rfl (.inl rfl)) (s_var (i := 2) rfl (.inl rfl)))
 (z_cons (z_fld T.Queue_c T.Queue_n_mark (s_var (i := 0) rfl (.inl rfl)) (s_bin o_sub (s_var (i := 2) rfl (.inl rfl)) s_int))
 (z_cons (z_fld T.Queue_c T.Queue_n_latest (s_var (i := 0) rfl (.inl rfl)) s_non)
 (z_cons (z_fld T.Queue_c T.Queue_n_kept (s_var (i := 0) rfl (.inl rfl)) (s_lst a_nil))
 (z_cons (z_fld T.Queue_c T.Queue_n_most_lag (s_var (i := 0) rfl (.inl rfl)) s_int)
 (z_one (z_fld T.Queue_c T.Queue_n_calls (s_var (i := 0) rfl (.inl rfl)) (s_lst a_nil)))))))))))
theorem kw_Queue___init___2_start (T : All K mg) : CalMK P w K mg base T.Queue "__init__" 4 2 ["start"] (reo [0, 1, 2]) (sp_Queue___init__ T) :=
  T.Queue___init__.calK (ps := ["self", "capacity", "start"]) (fng_Queue___init__ T) 2 ["start"] [] (fun a b c => reo [0, 1, 2] a (b ++ c)) (fun z => nomatch z) (fun _ z => nomatch z) (fun a b c => reo_vals _ a (b.append c)) fun D doc pm an cdv ct us mv ws l1 l2 l3 => match us, mv, ws, l1, l2, l3 with
    | [_, _], [], [_], _, _, _ => rfl
def t__law_queue (T : All K mg) : RS :=
 zCons (zSet 1 (rCall (sp__law_pick T) [] (aCons (rVar 0) (aCons (rLst (aCons (rC (.int 0)) (aCons (rC (.int 0)) (aCons (rC (.int 1)) (aCons (rCall (sp__law_digit T) [] (aCons (rVar 0) (aCons (rC (.int 20)) aNil))) (aCons (rBin oAdd (rBin oPow (rC (.int 10)) (rC (.int 30))) (rCall (sp__law_digit T) [] (aCons (rVar 0) (aCons (rC (.int 100)) aNil)))) aNil)))))) aNil))))
 (zRet (rMakeN T.Queue (sp_Queue___init__ T) 2 1 (reo [0, 1, 2]) (aCons (rBin oAdd (rC (.int 2)) (rCall (sp__law_digit T) [] (aCons (rVar 0) (aCons (rC (.int 8)) aNil)))) aNil) (aCons (rVar 1) aNil)))
@[irreducible] def sp__law_queue (T : All K mg) : Sp := rFn 1 ["_law_pot_here", "_law_begin"] (t__law_queue T)
theorem ok__law_queue (T : All K mg) : Cal P w K mg base "_law_queue" 6 ["_law_pot_here"] [] (sp__law_queue T) := by
 delta sp__law_queue; exact T._law_queue.rcal sc__law_queue fun cd A outer s H1 E1 =>
 (z_cons (z_set sc__law_queue.nd rfl (s_call (ok__law_pick T) (a_cons (s_var (i := 0) rfl (.inl rfl)) (a_cons (s_lst (a_cons s_int (a_cons s_int (a_cons s_int (a_cons (s_call (ok__law_digit T) (a_cons (s_var (i := 0) rfl (.inl rfl)) (a_cons s_int a_nil))) (a_cons (s_bin o_add (s_bin o_pow s_int s_int) (s_call (ok__law_digit T) (a_cons (s_var (i := 0) rfl (.inl rfl)) (a_cons s_int a_nil)))) a_nil)))))) a_nil))))
 (z_one (z_ret (s_makeK T.Queue_k (kw_Queue___init___2_start T) (a_cons (s_bin o_add s_int (s_call (ok__law_digit T) (a_cons (s_var (i := 0) rfl (.inl rfl)) (a_cons s_int a_nil)))) a_nil) (k_cons (s_var (i := 1) rfl (.inl rfl)) k_nil)))))
def t_Queue_capacity (T : All K mg) : RS :=
 zRet (rFld T.Queue "size" (rVar 0))
@[irreducible] def sp_Queue_capacity (T : All K mg) : Sp := rFn 1 ["self"] (t_Queue_capacity T)
theorem fng_Queue_capacity (T : All K mg) : FnG P w K mg base 1 T.Queue_capacity.f T.Queue_capacity.fd ["self"] (sp_Queue_capacity T) := by
 delta sp_Queue_capacity; exact T.Queue_capacity.rfng sc_Queue_capacity fun cd A outer s H1 E1 =>
 (z_one (z_ret (s_fld T.Queue_c T.Queue_n_size (s_var (i := 0) rfl (.inl rfl)))))
theorem ok_Queue_capacity (T : All K mg) : CalM P w K mg base T.Queue "capacity" 1 ["self"] [] (sp_Queue_capacity T) := ⟨_, _, [], fng_Queue_capacity T, T.Queue_capacity.mt, T.Queue_capacity.b, .nil⟩
def t_Queue_start (T : All K mg) : RS :=
 zRet (rFld T.Queue "first" (rVar 0))
@[irreducible] def sp_Queue_start (T : All K mg) : Sp := rFn 1 ["self"] (t_Queue_start T)
theorem fng_Queue_start (T : All K mg) : FnG P w K mg base 1 T.Queue_start.f T.Queue_start.fd ["self"] (sp_Queue_start T) := by
 delta sp_Queue_start; exact T.Queue_start.rfng sc_Queue_start fun cd A outer s H1 E1 =>
 (z_one (z_ret (s_fld T.Queue_c T.Queue_n_first (s_var (i := 0) rfl (.inl rfl)))))
theorem ok_Queue_start (T : All K mg) : CalM P w K mg base T.Queue "start" 1 ["self"] [] (sp_Queue_start T) := ⟨_, _, [], fng_Queue_start T, T.Queue_start.mt, T.Queue_start.b, .nil⟩
def t_Queue_passed (T : All K mg) : RS :=
 zRet (rFld T.Queue "mark" (rVar 0))
@[irreducible] def sp_Queue_passed (T : All K mg) : Sp := rFn 1 ["self"] (t_Queue_passed T)
theorem fng_Queue_passed (T : All K mg) : FnG P w K mg base 1 T.Queue_passed.f T.Queue_passed.fd ["self"] (sp_Queue_passed T) := by
 delta sp_Queue_passed; exact T.Queue_passed.rfng sc_Queue_passed fun cd A outer s H1 E1 =>
 (z_one (z_ret (s_fld T.Queue_c T.Queue_n_mark (s_var (i := 0) rfl (.inl rfl)))))
theorem ok_Queue_passed (T : All K mg) : CalM P w K mg base T.Queue "passed" 1 ["self"] [] (sp_Queue_passed T) := ⟨_, _, [], fng_Queue_passed T, T.Queue_passed.mt, T.Queue_passed.b, .nil⟩
def t_Queue_newest (T : All K mg) : RS :=
 zRet (rFld T.Queue "latest" (rVar 0))
@[irreducible] def sp_Queue_newest (T : All K mg) : Sp := rFn 1 ["self"] (t_Queue_newest T)
theorem fng_Queue_newest (T : All K mg) : FnG P w K mg base 1 T.Queue_newest.f T.Queue_newest.fd ["self"] (sp_Queue_newest T) := by
 delta sp_Queue_newest; exact T.Queue_newest.rfng sc_Queue_newest fun cd A outer s H1 E1 =>
 (z_one (z_ret (s_fld T.Queue_c T.Queue_n_latest (s_var (i := 0) rfl (.inl rfl)))))
theorem ok_Queue_newest (T : All K mg) : CalM P w K mg base T.Queue "newest" 1 ["self"] [] (sp_Queue_newest T) := ⟨_, _, [], fng_Queue_newest T, T.Queue_newest.mt, T.Queue_newest.b, .nil⟩
def t_Queue_waiting (T : All K mg) : RS :=
 zRet (rB (cListL K) (aCons (rFld T.Queue "kept" (rVar 0)) aNil))
@[irreducible] def sp_Queue_waiting (T : All K mg) : Sp := rFn 1 ["self"] (t_Queue_waiting T)
theorem fng_Queue_waiting (T : All K mg) : FnG P w K mg base 1 T.Queue_waiting.f T.Queue_waiting.fd ["self"] (sp_Queue_waiting T) := by
 delta sp_Queue_waiting; exact T.Queue_waiting.rfng sc_Queue_waiting fun cd A outer s H1 E1 =>
 (z_one (z_ret (s_bt c_listL T.n_list PyProof.Rows.boot_list (a_cons (s_fld T.Queue_c T.Queue_n_kept (s_var (i := 0) rfl (.inl rfl))) a_nil))))
theorem ok_Queue_waiting (T : All K mg) : CalM P w K mg base T.Queue "waiting" 1 ["self"] [] (sp_Queue_waiting T) := ⟨_, _, [], fng_Queue_waiting T, T.Queue_waiting.mt, T.Queue_waiting.b, .nil⟩
def t_Arrivals___init__ (T : All K mg) : RS :=
 zCons (zFld T.Arrivals "mark" (rVar 0) (rVar 1))
 (zCons (zFld T.Arrivals "waited" (rVar 0) (rVar 2))
 (zCons (zFld T.Arrivals "low" (rVar 0) (rB cMax (aCons (rVar 3) (aCons (rBin oAdd (rVar 1) (rC (.int 1))) aNil))))
 (zFld T.Arrivals "high" (rVar 0) (rVar 4))))
@[irreducible] def sp_Arrivals___init__ (T : All K mg) : Sp := rFn 5 ["self", "mark", "waiting", "low", "high"] (t_Arrivals___init__ T)
theorem fng_Arrivals___init__ (T : All K mg) : FnG P w K mg base 1 T.Arrivals___init__.f T.Arrivals___init__.fd ["self", "mark", "waiting", "low", "high"] (sp_Arrivals___init__ T) := by
 delta sp_Arrivals___init__; exact T.Arrivals___init__.rfng sc_Arrivals___init__ fun cd A outer s H1 E1 =>
 (z_cons (z_fld T.Arrivals_c T.Arrivals_n_mark (s_var (i := 0) rfl (.inl rfl)) (s_var (i := 1) rfl (.inl rfl)))
 (z_cons (z_fld T.Arrivals_c T.Arrivals_n_waited (s_var (i := 0) rfl (.inl rfl)) (s_var (i := 2) rfl (.inl rfl)))
 (z_cons (z_fld T.Arrivals_c T.Arrivals_n_low (s_var (i := 0) rfl (.inl rfl)) (s_bi c_max T.n_max PyProof.Rows.boot_max (a_cons (s_var (i := 3) rfl (.inl rfl)) (a_cons (s_bin o_add (s_var (i := 1) rfl (.inl rfl)) s_int) a_nil))))
 (z_one (z_fld T.Arrivals_c T.Arrivals_n_high (s_var (i := 0) rfl (.inl rfl)) (s_var (i := 4) rfl (.inl rfl)))))))
theorem ok_Arrivals___init__ (T : All K mg) : CalM P w K mg base T.Arrivals "__init__" 1 ["self", "mark", "waiting", "low", "high"] [] (sp_Arrivals___init__ T) := ⟨_, _, [], fng_Arrivals___init__ T, T.Arrivals___init__.mt, T.Arrivals___init__.b, .nil⟩
def t_want_number (T : All K mg) : RS :=
 zIf (tOr (tNot (tV (rCall (sp_is_int T) [] (aCons (rVar 0) aNil)))) (tCmp oLt (rVar 0) (rVar 1)))
 (zRaise T.InvalidNumber (aCons (rJoin [rC (.str "an integer that is at least "), rFmtI (rVar 1), rC (.str " is required")]) aNil))
 (zNil)
@[irreducible] def sp_want_number (T : All K mg) : Sp := rFn 2 ["value", "least"] (t_want_number T)
theorem ok_want_number (T : All K mg) : Cal P w K mg base "want_number" 2 ["value", "least"] [] (sp_want_number T) := by
 delta sp_want_number; exact T.want_number.rcal sc_want_number fun cd A outer s H1 E1 =>
 (z_one (z_if (b_ww (w_or (b_not (b_val (s_call (ok_is_int T) (a_cons (s_var (i := 0) rfl (.inl rfl)) a_nil)))) (w_or1 (b_cmp o_lt (s_var (i := 0) rfl (.inl rfl)) (s_var (i := 1) rfl (.inl rfl))))))
 (z_one (z_raise T.InvalidNumber_e (a_cons (s_join (.cons s_str (.cons (s_fmt (s_var (i := 1) rfl (.inl rfl))) (.cons s_str SJ.nil)))) a_nil)))
 z_nil))
def t_odd_multiples (T : All K mg) : RS :=
 zCons (zSet 4 (rBin oDiv (rVar 1) (rVar 2)))
 (zCons (zIf (tCmp oEqI (rBin oMod (rVar 4) (rC (.int 2))) (rC (.int 0)))
 (zAug 4 oSub (rC (.int 1)))
 (zNil))
 (zCons (zSet 5 (rLst (aNil)))
 (zCons (zWhile (tAnd (tCmp oLt (rB (cLenL K) (aCons (rVar 5) aNil)) (rVar 3)) (tAnd (tCmp oGt (rVar 4) (rC (.int 0))) (tCmp oGe (rBin oMul (rVar 4) (rVar 2)) (rVar 0))))
 (zCons (zExpr (rAppV 5 (rBin oMul (rVar 4) (rVar 2))))
 (zAug 4 oSub (rC (.int 2)))))
 (zRet (rVar 5)))))
@[irreducible] def sp_odd_multiples (T : All K mg) : Sp := rFn 4 ["low", "high", "power", "count", "last", "found"] (t_odd_multiples T)
theorem ok_odd_multiples (T : All K mg) : Cal P w K mg base "odd_multiples" 1 ["low", "high", "power", "count"] [] (sp_odd_multiples T) := by
 delta sp_odd_multiples; exact T.odd_multiples.rcal sc_odd_multiples fun cd A outer s H1 E1 =>
 (z_cons (z_set sc_odd_multiples.nd rfl (s_bin o_div (s_var (i := 1) rfl (.inl rfl)) (s_var (i := 2) rfl (.inl rfl))))
 (z_cons (z_if (b_cmp o_eqI (s_bin o_mod (s_var (i := 4) rfl (.inl rfl)) s_int) s_int)
 (z_one (z_aug i_sub sc_odd_multiples.nd rfl s_int))
 z_nil)
 (z_cons (z_set sc_odd_multiples.nd rfl (s_lst a_nil))
 (z_cons (z_while (b_ww (w_and (b_cmp o_lt (s_bi c_lenL T.n_len PySem.boot_len (a_cons (s_var (i := 5) rfl (.inl rfl)) a_nil)) (s_var (i := 3) rfl (.inl rfl))) (w_and (b_cmp o_gt (s_var (i := 4) rfl (.inl rfl)) s_int) (w_and1 (b_cmp o_ge (s_bin o_mul (s_var (i := 4) rfl (.inl rfl)) (s_var (i := 2) rfl (.inl rfl))) (s_var (i := 0) rfl (.inl rfl)))))))
 (z_cons (z_expr (s_appV (i := 5) rfl (.inl rfl) (s_bin o_mul (s_var (i := 4) rfl (.inl rfl)) (s_var (i := 2) rfl (.inl rfl)))))
 (z_one (z_aug i_sub sc_odd_multiples.nd rfl s_int))))
 (z_one (z_ret (s_var (i := 5) rfl (.inl rfl))))))))
def t_strongest (T : All K mg) : RS :=
 zCons (zExpr (rCall (sp_want_version T) [] (aCons (rVar 0) aNil)))
 (zCons (zExpr (rCall (sp_want_version T) [] (aCons (rVar 1) aNil)))
 (zCons (zExpr (rCall (sp_want_number T) [] (aCons (rVar 2) (aCons (rC (.int 0)) aNil))))
 (zCons (zSet 3 (rIf (tAnd (tCmp oEqI (rVar 0) (rC (.int 0))) (tCmp oGt (rVar 2) (rC (.int 0)))) (rLst (aCons (rC (.int 0)) aNil)) (rLst (aNil))))
 (zCons (zSet 4 (rBin oShl (rC (.int 1)) (rBits (rVar 1))))
 (zCons (zWhile (tAnd (tCmp oGt (rVar 4) (rC (.int 0))) (tCmp oLt (rB (cLenL K) (aCons (rVar 3) aNil)) (rVar 2)))
 (zCons (zExpr (rExtV 3 (rCall (sp_odd_multiples T) [] (aCons (rVar 0) (aCons (rVar 1) (aCons (rVar 4) (aCons (rBin oSub (rVar 2) (rB (cLenL K) (aCons (rVar 3) aNil))) aNil)))))))
 (zAug 4 oShr (rC (.int 1)))))
 (zRet (rVar 3)))))))
@[irreducible] def sp_strongest (T : All K mg) : Sp := rFn 3 ["low", "high", "count", "found", "power"] (t_strongest T)
theorem ok_strongest (T : All K mg) : Cal P w K mg base "strongest" 4 ["low", "high", "count"] [] (sp_strongest T) := by
 delta sp_strongest; exact T.strongest.rcal sc_strongest fun cd A outer s H1 E1 =>
 (z_cons (z_expr (s_call (ok_want_version T) (a_cons (s_var (i := 0) rfl (.inl rfl)) a_nil)))
 (z_cons (z_expr (s_call (ok_want_version T) (a_cons (s_var (i := 1) rfl (.inl rfl)) a_nil)))
 (z_cons (z_expr (s_call (ok_want_number T) (a_cons (s_var (i := 2) rfl (.inl rfl)) (a_cons s_int a_nil))))
 (z_cons (z_set sc_strongest.nd rfl (s_if (b_ww (w_and (b_cmp o_eqI (s_var (i := 0) rfl (.inl rfl)) s_int) (w_and1 (b_cmp o_gt (s_var (i := 2) rfl (.inl rfl)) s_int)))) (s_lst (a_cons s_int a_nil)) (s_lst a_nil)))
 (z_cons (z_set sc_strongest.nd rfl (s_bin o_shl s_int (s_bits (s_var (i := 1) rfl (.inl rfl)))))
 (z_cons (z_while (b_ww (w_and (b_cmp o_gt (s_var (i := 4) rfl (.inl rfl)) s_int) (w_and1 (b_cmp o_lt (s_bi c_lenL T.n_len PySem.boot_len (a_cons (s_var (i := 3) rfl (.inl rfl)) a_nil)) (s_var (i := 2) rfl (.inl rfl))))))
 (z_cons (z_expr (s_extV (i := 3) rfl (.inl rfl) (s_call (ok_odd_multiples T) (a_cons (s_var (i := 0) rfl (.inl rfl)) (a_cons (s_var (i := 1) rfl (.inl rfl)) (a_cons (s_var (i := 4) rfl (.inl rfl)) (a_cons (s_bin o_sub (s_var (i := 2) rfl (.inl rfl)) (s_bi c_lenL T.n_len PySem.boot_len (a_cons (s_var (i := 3) rfl (.inl rfl)) a_nil))) a_nil)))))))
 (z_one (z_aug i_shr sc_strongest.nd rfl s_int))))
 (z_one (z_ret (s_var (i := 3) rfl (.inl rfl))))))))))
def t_lowest_bit (T : All K mg) : RS :=
 zRet (rBin oAnd (rVar 0) (rNeg (rVar 0)))
@[irreducible] def sp_lowest_bit (T : All K mg) : Sp := rFn 1 ["version"] (t_lowest_bit T)
theorem ok_lowest_bit (T : All K mg) : Cal P w K mg base "lowest_bit" 1 ["version"] [] (sp_lowest_bit T) := by
 delta sp_lowest_bit; exact T.lowest_bit.rcal sc_lowest_bit fun cd A outer s H1 E1 =>
 (z_one (z_ret (s_bin o_and (s_var (i := 0) rfl (.inl rfl)) (s_neg (s_var (i := 0) rfl (.inl rfl))))))
def t_precedes (T : All K mg) : RS :=
 zCons (zExpr (rCall (sp_want_version T) [] (aCons (rVar 0) aNil)))
 (zCons (zExpr (rCall (sp_want_version T) [] (aCons (rVar 1) aNil)))
 (zCons (zIf (tOr (tCmp oEqI (rVar 0) (rC (.int 0))) (tCmp oEqI (rVar 1) (rC (.int 0))))
 (zRet (rAnd (rBin oEqI (rVar 0) (rC (.int 0))) (rBin oGt (rVar 1) (rC (.int 0)))))
 (zNil))
 (zCons (zPar 2 3 (aCons (rCall (sp_lowest_bit T) [] (aCons (rVar 0) aNil)) (aCons (rCall (sp_lowest_bit T) [] (aCons (rVar 1) aNil)) aNil)))
 (zRet (rIf (tCmp oEqI (rVar 2) (rVar 3)) (rBin oGt (rVar 0) (rVar 1)) (rBin oGt (rVar 2) (rVar 3)))))))
@[irreducible] def sp_precedes (T : All K mg) : Sp := rFn 2 ["version", "other", "one_step", "other_step"] (t_precedes T)
theorem ok_precedes (T : All K mg) : Cal P w K mg base "precedes" 4 ["version", "other"] [] (sp_precedes T) := by
 delta sp_precedes; exact T.precedes.rcal sc_precedes fun cd A outer s H1 E1 =>
 (z_cons (z_expr (s_call (ok_want_version T) (a_cons (s_var (i := 0) rfl (.inl rfl)) a_nil)))
 (z_cons (z_expr (s_call (ok_want_version T) (a_cons (s_var (i := 1) rfl (.inl rfl)) a_nil)))
 (z_cons (z_if (b_ww (w_or (b_cmp o_eqI (s_var (i := 0) rfl (.inl rfl)) s_int) (w_or1 (b_cmp o_eqI (s_var (i := 1) rfl (.inl rfl)) s_int))))
 (z_one (z_ret (s_and (s_cmp o_eqI (s_var (i := 0) rfl (.inl rfl)) s_int) (s_one (s_cmp o_gt (s_var (i := 1) rfl (.inl rfl)) s_int)))))
 z_nil)
 (z_cons (z_par (i := 2) (l := 3) sc_precedes.nd rfl rfl (a_cons (s_call (ok_lowest_bit T) (a_cons (s_var (i := 0) rfl (.inl rfl)) a_nil)) (a_cons (s_call (ok_lowest_bit T) (a_cons (s_var (i := 1) rfl (.inl rfl)) a_nil)) a_nil)))
 (z_one (z_ret (s_if (b_cmp o_eqI (s_var (i := 2) rfl (.inl rfl)) (s_var (i := 3) rfl (.inl rfl))) (s_cmp o_gt (s_var (i := 0) rfl (.inl rfl)) (s_var (i := 1) rfl (.inl rfl))) (s_cmp o_gt (s_var (i := 2) rfl (.inl rfl)) (s_var (i := 3) rfl (.inl rfl))))))))))
def t_weakest (T : All K mg) : RS :=
 zCons (zSet 1 (rBin (oIxL K) (rVar 0) (rC (.int 0))))
 (zCons (zFor (iL K (rSl (slL K) (rVar 0) (pAt (rC (.int 1))) pNo)) (gName 2)
 (zIf (tV (rCall (sp_precedes T) [] (aCons (rVar 1) (aCons (rVar 2) aNil))))
 (zSet 1 (rVar 2))
 (zNil)))
 (zRet (rVar 1)))
@[irreducible] def sp_weakest (T : All K mg) : Sp := rFn 1 ["versions", "found", "version"] (t_weakest T)
theorem ok_weakest (T : All K mg) : Cal P w K mg base "weakest" 5 ["versions"] [] (sp_weakest T) := by
 delta sp_weakest; exact T.weakest.rcal sc_weakest fun cd A outer s H1 E1 =>
 (z_cons (z_set sc_weakest.nd rfl (s_ix x_lst (s_var (i := 0) rfl (.inl rfl)) s_int))
 (z_cons (z_for (i_L (s_sl l_lst (s_var (i := 0) rfl (.inl rfl)) (p_at s_int) p_no)) (g_name sc_weakest.nd rfl)
 (z_one (z_if (b_val (s_call (ok_precedes T) (a_cons (s_var (i := 1) rfl (.inl rfl)) (a_cons (s_var (i := 2) rfl (.inl rfl)) a_nil))))
 (z_one (z_set sc_weakest.nd rfl (s_var (i := 2) rfl (.inl rfl))))
 z_nil)))
 (z_one (z_ret (s_var (i := 1) rfl (.inl rfl))))))
def t_after_range (T : All K mg) : RS :=
 zCons (zIf (tCmp oLe (rBin oAdd (rBin oSub (rBin oAdd (rB (cLenL K) (aCons (rVar 0) aNil)) (rVar 2)) (rVar 1)) (rC (.int 1))) (rVar 3))
 (zRet (rBin oCat (rVar 0) (rLstRg (rVar 1) (rBin oAdd (rVar 2) (rC (.int 1))))))
 (zNil))
 (zCons (zSet 4 (rBin oCat (rVar 0) (rCall (sp_strongest T) [] (aCons (rVar 1) (aCons (rBin oSub (rVar 2) (rC (.int 1))) (aCons (rBin oSub (rVar 3) (rC (.int 1))) aNil))))))
 (zCons (zWhile (tCmp oGt (rB (cLenL K) (aCons (rVar 4) aNil)) (rBin oSub (rVar 3) (rC (.int 1))))
 (zExpr (rBm K "list" mRem (rVar 4) (aCons (rCall (sp_weakest T) [] (aCons (rVar 4) aNil)) aNil))))
 (zRet (rBin oCat (rB (cSorted K) (aCons (rVar 4) aNil)) (rLst (aCons (rVar 2) aNil))))))
@[irreducible] def sp_after_range (T : All K mg) : Sp := rFn 4 ["waiting", "low", "high", "capacity", "others"] (t_after_range T)
theorem ok_after_range (T : All K mg) : Cal P w K mg base "after_range" 6 ["waiting", "low", "high", "capacity"] [] (sp_after_range T) := by
 delta sp_after_range; exact T.after_range.rcal sc_after_range fun cd A outer s H1 E1 =>
 (z_cons (z_if (b_cmp o_le (s_bin o_add (s_bin o_sub (s_bin o_add (s_bi c_lenL T.n_len PySem.boot_len (a_cons (s_var (i := 0) rfl (.inl rfl)) a_nil)) (s_var (i := 2) rfl (.inl rfl))) (s_var (i := 1) rfl (.inl rfl))) s_int) (s_var (i := 3) rfl (.inl rfl)))
 (z_one (z_ret (s_bin o_cat (s_var (i := 0) rfl (.inl rfl)) (s_lstRg T.n_list T.n_range (s_var (i := 1) rfl (.inl rfl)) (s_bin o_add (s_var (i := 2) rfl (.inl rfl)) s_int)))))
 z_nil)
 (z_cons (z_set sc_after_range.nd rfl (s_bin o_cat (s_var (i := 0) rfl (.inl rfl)) (s_call (ok_strongest T) (a_cons (s_var (i := 1) rfl (.inl rfl)) (a_cons (s_bin o_sub (s_var (i := 2) rfl (.inl rfl)) s_int) (a_cons (s_bin o_sub (s_var (i := 3) rfl (.inl rfl)) s_int) a_nil))))))
 (z_cons (z_while (b_cmp o_gt (s_bi c_lenL T.n_len PySem.boot_len (a_cons (s_var (i := 4) rfl (.inl rfl)) a_nil)) (s_bin o_sub (s_var (i := 3) rfl (.inl rfl)) s_int))
 (z_one (z_expr (s_bm PySem.F.plainAttrs_list PySem.F.slot_list_remove PySem.F.type_list_remove m_rem (s_var (i := 4) rfl (.inl rfl)) (a_cons (s_call (ok_weakest T) (a_cons (s_var (i := 4) rfl (.inl rfl)) a_nil)) a_nil)))))
 (z_one (z_ret (s_bin o_cat (s_bi c_sorted T.n_sorted PyProof.Rows.boot_sorted (a_cons (s_var (i := 4) rfl (.inl rfl)) a_nil)) (s_lst (a_cons (s_var (i := 2) rfl (.inl rfl)) a_nil))))))))
def t_Arrivals_after (T : All K mg) : RS :=
 zCons (zIf (tCmp oLt (rVar 1) (rFld T.Arrivals "low" (rVar 0)))
 (zRet (rB (cListL K) (aCons (rFld T.Arrivals "waited" (rVar 0)) aNil)))
 (zNil))
 (zRet (rCall (sp_after_range T) [] (aCons (rFld T.Arrivals "waited" (rVar 0)) (aCons (rFld T.Arrivals "low" (rVar 0)) (aCons (rVar 1) (aCons (rVar 2) aNil))))))
@[irreducible] def sp_Arrivals_after (T : All K mg) : Sp := rFn 3 ["self", "version", "capacity"] (t_Arrivals_after T)
theorem fng_Arrivals_after (T : All K mg) : FnG P w K mg base 7 T.Arrivals_after.f T.Arrivals_after.fd ["self", "version", "capacity"] (sp_Arrivals_after T) := by
 delta sp_Arrivals_after; exact T.Arrivals_after.rfng sc_Arrivals_after fun cd A outer s H1 E1 =>
 (z_cons (z_if (b_cmp o_lt (s_var (i := 1) rfl (.inl rfl)) (s_fld T.Arrivals_c T.Arrivals_n_low (s_var (i := 0) rfl (.inl rfl))))
 (z_one (z_ret (s_bt c_listL T.n_list PyProof.Rows.boot_list (a_cons (s_fld T.Arrivals_c T.Arrivals_n_waited (s_var (i := 0) rfl (.inl rfl))) a_nil))))
 z_nil)
 (z_one (z_ret (s_call (ok_after_range T) (a_cons (s_fld T.Arrivals_c T.Arrivals_n_waited (s_var (i := 0) rfl (.inl rfl))) (a_cons (s_fld T.Arrivals_c T.Arrivals_n_low (s_var (i := 0) rfl (.inl rfl))) (a_cons (s_var (i := 1) rfl (.inl rfl)) (a_cons (s_var (i := 2) rfl (.inl rfl)) a_nil))))))))
theorem ok_Arrivals_after (T : All K mg) : CalM P w K mg base T.Arrivals "after" 7 ["self", "version", "capacity"] [] (sp_Arrivals_after T) := ⟨_, _, [], fng_Arrivals_after T, T.Arrivals_after.mt, T.Arrivals_after.b, .nil⟩
def t_Arrivals_does_hold (T : All K mg) : RS :=
 zRet (rOr (rBin (oInL K) (rVar 1) (rFld T.Arrivals "waited" (rVar 0))) (rCh oLe oLe (rFld T.Arrivals "low" (rVar 0)) (rVar 1) (rFld T.Arrivals "high" (rVar 0))))
@[irreducible] def sp_Arrivals_does_hold (T : All K mg) : Sp := rFn 2 ["self", "version"] (t_Arrivals_does_hold T)
theorem fng_Arrivals_does_hold (T : All K mg) : FnG P w K mg base 1 T.Arrivals_does_hold.f T.Arrivals_does_hold.fd ["self", "version"] (sp_Arrivals_does_hold T) := by
 delta sp_Arrivals_does_hold; exact T.Arrivals_does_hold.rfng sc_Arrivals_does_hold fun cd A outer s H1 E1 =>
 (z_one (z_ret (s_or (s_cmp o_inL (s_var (i := 1) rfl (.inl rfl)) (s_fld T.Arrivals_c T.Arrivals_n_waited (s_var (i := 0) rfl (.inl rfl)))) (s_one (s_ch o_le o_le (s_fld T.Arrivals_c T.Arrivals_n_low (s_var (i := 0) rfl (.inl rfl))) (s_var (i := 1) rfl (.inl rfl)) (s_fld T.Arrivals_c T.Arrivals_n_high (s_var (i := 0) rfl (.inl rfl))))))))
theorem ok_Arrivals_does_hold (T : All K mg) : CalM P w K mg base T.Arrivals "does_hold" 1 ["self", "version"] [] (sp_Arrivals_does_hold T) := ⟨_, _, [], fng_Arrivals_does_hold T, T.Arrivals_does_hold.mt, T.Arrivals_does_hold.b, .nil⟩
def t_Arrivals_drop (T : All K mg) : RS :=
 zCons (zPar 3 4 (aCons (rB cMax (aCons (rVar 1) (aCons (rBin oSub (rFld T.Arrivals "low" (rVar 0)) (rC (.int 1))) aNil))) (aCons (rFld T.Arrivals "high" (rVar 0)) aNil)))
 (zCons (zWhile (tCmp oGt (rBin oSub (rVar 4) (rVar 3)) (rC (.int 1)))
 (zCons (zSet 5 (rBin oDiv (rBin oAdd (rVar 3) (rVar 4)) (rC (.int 2))))
 (zIf (tCmp (oInL K) (rVar 1) (rMeth T.Arrivals "after" (sp_Arrivals_after T) [] (rVar 0) (aCons (rVar 5) (aCons (rVar 2) aNil))))
 (zSet 3 (rVar 5))
 (zSet 4 (rVar 5)))))
 (zCons (zSet 6 (rLc (iL K (rMeth T.Arrivals "after" (sp_Arrivals_after T) [] (rVar 0) (aCons (rVar 3) (aCons (rVar 2) aNil)))) (gName 7) (tCmp oNeI (rVar 7) (rVar 1)) (rVar 7) [7]))
 (zRet (rTup (aCons (rFld T.Arrivals "mark" (rVar 0)) (aCons (rVar 4) (aCons (rB (cTupL K) (aCons (rVar 6) aNil)) aNil)))))))
@[irreducible] def sp_Arrivals_drop (T : All K mg) : Sp := rFn 3 ["self", "version", "capacity", "present", "absent", "middle", "others", "other"] (t_Arrivals_drop T)
theorem fng_Arrivals_drop (T : All K mg) : FnG P w K mg base 8 T.Arrivals_drop.f T.Arrivals_drop.fd ["self", "version", "capacity"] (sp_Arrivals_drop T) := by
 delta sp_Arrivals_drop; exact T.Arrivals_drop.rfng sc_Arrivals_drop fun cd A outer s H1 E1 =>
 (z_cons (z_par (i := 3) (l := 4) sc_Arrivals_drop.nd rfl rfl (a_cons (s_bi c_max T.n_max PyProof.Rows.boot_max (a_cons (s_var (i := 1) rfl (.inr (.inl rfl))) (a_cons (s_bin o_sub (s_fld T.Arrivals_c T.Arrivals_n_low (s_var (i := 0) rfl (.inl rfl))) s_int) a_nil))) (a_cons (s_fld T.Arrivals_c T.Arrivals_n_high (s_var (i := 0) rfl (.inl rfl))) a_nil)))
 (z_cons (z_while (b_cmp o_gt (s_bin o_sub (s_var (i := 4) rfl (.inl rfl)) (s_var (i := 3) rfl (.inl rfl))) s_int)
 (z_cons (z_set sc_Arrivals_drop.nd rfl (s_bin o_div (s_bin o_add (s_var (i := 3) rfl (.inl rfl)) (s_var (i := 4) rfl (.inl rfl))) s_int))
 (z_one (z_if (b_cmp o_inL (s_var (i := 1) rfl (.inr (.inl rfl))) (s_meth T.Arrivals_c (ok_Arrivals_after T) (s_var (i := 0) rfl (.inl rfl)) (a_cons (s_var (i := 5) rfl (.inl rfl)) (a_cons (s_var (i := 2) rfl (.inl rfl)) a_nil))))
 (z_one (z_set sc_Arrivals_drop.nd rfl (s_var (i := 5) rfl (.inl rfl))))
 (z_one (z_set sc_Arrivals_drop.nd rfl (s_var (i := 5) rfl (.inl rfl))))))))
 (z_cons (z_lc1 (own := [("other", 7)]) (i_L (s_meth T.Arrivals_c (ok_Arrivals_after T) (s_var (i := 0) rfl (.inl rfl)) (a_cons (s_var (i := 3) rfl (.inl rfl)) (a_cons (s_var (i := 2) rfl (.inl rfl)) a_nil)))) sc_Arrivals_drop.nd rfl (blk_fx (by decide +kernel)) (fun _ _ _ _ _ => (g_name sc_Arrivals_drop.nd rfl)) (fun _ _ _ _ _ => (b_cmp o_neI (s_var (i := 7) (by rfl) (by walk_at "G:vis")) (s_var (i := 1) (by rfl) (by walk_at "G:vis")))) (fun _ _ _ _ _ => (s_var (i := 7) (by rfl) (by walk_at "G:vis"))))
 (z_one (z_ret (s_tup (a_cons (s_fld T.Arrivals_c T.Arrivals_n_mark (s_var (i := 0) rfl (.inl rfl))) (a_cons (s_var (i := 4) rfl (.inl rfl)) (a_cons (s_bt c_tupL T.n_tuple PyProof.Rows.boot_tuple (a_cons (s_var (i := 6) rfl (.inl rfl)) a_nil)) a_nil)))))))))
theorem ok_Arrivals_drop (T : All K mg) : CalM P w K mg base T.Arrivals "drop" 8 ["self", "version", "capacity"] [] (sp_Arrivals_drop T) := ⟨_, _, [], fng_Arrivals_drop T, T.Arrivals_drop.mt, T.Arrivals_drop.b, .nil⟩
def t_Queue_drop_of (T : All K mg) : RS :=
 zCons (zExpr (rCall (sp_want_version T) [] (aCons (rVar 1) aNil)))
 (zCons (zAsg (rTup (aCons (rBin oSub (rFld T.Queue "first" (rVar 0)) (rC (.int 1))) (aCons (rLst (aNil)) aNil))) (gTup K 2 (gCons (gName 2) (gCons (gName 3) gNil))))
 (zCons (zFor (iL K (rFld T.Queue "calls" (rVar 0))) (gName 4)
 (zIf (tCmp oEqI (rB (cLenT K) (aCons (rVar 4) aNil)) (rC (.int 1)))
 (zCons (zSet 2 (rBin (oIxT K) (rVar 4) (rC (.int 0))))
 (zSet 3 (rLc (iL K (rVar 3)) (gName 5) (tCmp oGt (rVar 5) (rVar 2)) (rVar 5) [5])))
 (zCons (zSet 6 (rMake T.Arrivals (sp_Arrivals___init__ T) [] (aCons (rVar 2) (aCons (rVar 3) (aCons (rBin (oIxT K) (rVar 4) (rC (.int 0))) (aCons (rBin (oIxT K) (rVar 4) (rC (.int 1))) aNil))))))
 (zCons (zSet 3 (rMeth T.Arrivals "after" (sp_Arrivals_after T) [] (rVar 6) (aCons (rBin (oIxT K) (rVar 4) (rC (.int 1))) (aCons (rFld T.Queue "size" (rVar 0)) aNil))))
 (zIf (tAnd (tV (rMeth T.Arrivals "does_hold" (sp_Arrivals_does_hold T) [] (rVar 6) (aCons (rVar 1) aNil))) (tCmp (oNiL K) (rVar 1) (rVar 3)))
 (zRet (rMeth T.Arrivals "drop" (sp_Arrivals_drop T) [] (rVar 6) (aCons (rVar 1) (aCons (rFld T.Queue "size" (rVar 0)) aNil))))
 (zNil))))))
 (zRet (rC .non))))
@[irreducible] def sp_Queue_drop_of (T : All K mg) : Sp := rFn 2 ["self", "version", "mark", "waiting", "call", "other", "arrivals"] (t_Queue_drop_of T)
theorem fng_Queue_drop_of (T : All K mg) : FnG P w K mg base 9 T.Queue_drop_of.f T.Queue_drop_of.fd ["self", "version"] (sp_Queue_drop_of T) := by
 delta sp_Queue_drop_of; exact T.Queue_drop_of.rfng sc_Queue_drop_of fun cd A outer s H1 E1 =>
 (z_cons (z_expr (s_call (ok_want_version T) (a_cons (s_var (i := 1) rfl (.inl rfl)) a_nil)))
 (z_cons (z_asg (s_tup (a_cons (s_bin o_sub (s_fld T.Queue_c T.Queue_n_first (s_var (i := 0) rfl (.inl rfl))) s_int) (a_cons (s_lst a_nil) a_nil))) (g_tup (gs_cons (g_name sc_Queue_drop_of.nd rfl) (gs_cons (g_name sc_Queue_drop_of.nd rfl) gs_nil))))
 (z_cons (z_for (i_L (s_fld T.Queue_c T.Queue_n_calls (s_var (i := 0) rfl (.inl rfl)))) (g_name sc_Queue_drop_of.nd rfl)
 (z_one (z_if (b_cmp o_eqI (s_bi c_lenT T.n_len PySem.boot_len (a_cons (s_var (i := 4) rfl (.inl rfl)) a_nil)) s_int)
 (z_cons (z_set sc_Queue_drop_of.nd rfl (s_ix x_tup (s_var (i := 4) rfl (.inl rfl)) s_int))
 (z_one (z_lc1 (own := [("other", 5)]) (i_L (s_var (i := 3) rfl (.inl rfl))) sc_Queue_drop_of.nd rfl (blk_fx (by decide +kernel)) (fun _ _ _ _ _ => (g_name sc_Queue_drop_of.nd rfl)) (fun _ _ _ _ _ => (b_cmp o_gt (s_var (i := 5) (by rfl) (by walk_at "G:vis")) (s_var (i := 2) (by rfl) (by walk_at "G:vis")))) (fun _ _ _ _ _ => (s_var (i := 5) (by rfl) (by walk_at "G:vis"))))))
 (z_cons (z_set sc_Queue_drop_of.nd rfl (s_make T.Arrivals_k (ok_Arrivals___init__ T) (a_cons (s_var (i := 2) rfl (.inr (.inl rfl))) (a_cons (s_var (i := 3) rfl (.inl rfl)) (a_cons (s_ix x_tup (s_var (i := 4) rfl (.inl rfl)) s_int) (a_cons (s_ix x_tup (s_var (i := 4) rfl (.inl rfl)) s_int) a_nil))))))
 (z_cons (z_set sc_Queue_drop_of.nd rfl (s_meth T.Arrivals_c (ok_Arrivals_after T) (s_var (i := 6) rfl (.inl rfl)) (a_cons (s_ix x_tup (s_var (i := 4) rfl (.inl rfl)) s_int) (a_cons (s_fld T.Queue_c T.Queue_n_size (s_var (i := 0) rfl (.inl rfl))) a_nil))))
 (z_one (z_if (b_ww (w_and (b_val (s_meth T.Arrivals_c (ok_Arrivals_does_hold T) (s_var (i := 6) rfl (.inl rfl)) (a_cons (s_var (i := 1) rfl (.inl rfl)) a_nil))) (w_and1 (b_cmp o_niL (s_var (i := 1) rfl (.inl rfl)) (s_var (i := 3) rfl (.inl rfl))))))
 (z_one (z_ret (s_meth T.Arrivals_c (ok_Arrivals_drop T) (s_var (i := 6) rfl (.inl rfl)) (a_cons (s_var (i := 1) rfl (.inl rfl)) (a_cons (s_fld T.Queue_c T.Queue_n_size (s_var (i := 0) rfl (.inl rfl))) a_nil)))))
 z_nil)))))))
 (z_one (z_ret s_non)))))
theorem ok_Queue_drop_of (T : All K mg) : CalM P w K mg base T.Queue "drop_of" 9 ["self", "version"] [] (sp_Queue_drop_of T) := ⟨_, _, [], fng_Queue_drop_of T, T.Queue_drop_of.mt, T.Queue_drop_of.b, .nil⟩
def t_Queue_lag (T : All K mg) : RS :=
 zRet (rIf (tCmp oIs (rFld T.Queue "latest" (rVar 0)) (rC .non)) (rC (.int 0)) (rB cMax (aCons (rC (.int 0)) (aCons (rBin oSub (rFld T.Queue "latest" (rVar 0)) (rFld T.Queue "mark" (rVar 0))) aNil))))
@[irreducible] def sp_Queue_lag (T : All K mg) : Sp := rFn 1 ["self"] (t_Queue_lag T)
theorem fng_Queue_lag (T : All K mg) : FnG P w K mg base 1 T.Queue_lag.f T.Queue_lag.fd ["self"] (sp_Queue_lag T) := by
 delta sp_Queue_lag; exact T.Queue_lag.rfng sc_Queue_lag fun cd A outer s H1 E1 =>
 (z_one (z_ret (s_if (b_cmp o_is (s_fld T.Queue_c T.Queue_n_latest (s_var (i := 0) rfl (.inl rfl))) s_non) s_int (s_bi c_max T.n_max PyProof.Rows.boot_max (a_cons s_int (a_cons (s_bin o_sub (s_fld T.Queue_c T.Queue_n_latest (s_var (i := 0) rfl (.inl rfl))) (s_fld T.Queue_c T.Queue_n_mark (s_var (i := 0) rfl (.inl rfl)))) a_nil))))))
theorem ok_Queue_lag (T : All K mg) : CalM P w K mg base T.Queue "lag" 1 ["self"] [] (sp_Queue_lag T) := ⟨_, _, [], fng_Queue_lag T, T.Queue_lag.mt, T.Queue_lag.b, .nil⟩
def t_Queue_greatest_lag (T : All K mg) : RS :=
 zRet (rFld T.Queue "most_lag" (rVar 0))
@[irreducible] def sp_Queue_greatest_lag (T : All K mg) : Sp := rFn 1 ["self"] (t_Queue_greatest_lag T)
theorem fng_Queue_greatest_lag (T : All K mg) : FnG P w K mg base 1 T.Queue_greatest_lag.f T.Queue_greatest_lag.fd ["self"] (sp_Queue_greatest_lag T) := by
 delta sp_Queue_greatest_lag; exact T.Queue_greatest_lag.rfng sc_Queue_greatest_lag fun cd A outer s H1 E1 =>
 (z_one (z_ret (s_fld T.Queue_c T.Queue_n_most_lag (s_var (i := 0) rfl (.inl rfl)))))
theorem ok_Queue_greatest_lag (T : All K mg) : CalM P w K mg base T.Queue "greatest_lag" 1 ["self"] [] (sp_Queue_greatest_lag T) := ⟨_, _, [], fng_Queue_greatest_lag T, T.Queue_greatest_lag.mt, T.Queue_greatest_lag.b, .nil⟩
def t__law_state (T : All K mg) : RS :=
 zCons (zSet 1 (rLst (aCons (rMeth T.Queue "capacity" (sp_Queue_capacity T) [] (rVar 0) aNil) (aCons (rMeth T.Queue "start" (sp_Queue_start T) [] (rVar 0) aNil) (aCons (rMeth T.Queue "passed" (sp_Queue_passed T) [] (rVar 0) aNil) (aCons (rMeth T.Queue "newest" (sp_Queue_newest T) [] (rVar 0) aNil) (aCons (rMeth T.Queue "waiting" (sp_Queue_waiting T) [] (rVar 0) aNil) aNil)))))))
 (zCons (zSet 2 (rLc (iR1 (aCons (rC (.int 3)) aNil)) (gName 3) tY (rMeth T.Queue "drop_of" (sp_Queue_drop_of T) [] (rVar 0) (aCons (rVar 3) aNil)) [3]))
 (zCons (zSet 4 (rLst (aCons (rMeth T.Queue "lag" (sp_Queue_lag T) [] (rVar 0) aNil) (aCons (rMeth T.Queue "greatest_lag" (sp_Queue_greatest_lag T) [] (rVar 0) aNil) aNil))))
 (zRet (rLst (aCons (rVar 1) (aCons (rVar 4) (aCons (rLenO T.Queue (sp_Queue___len__ T) (rVar 0)) (aCons (rReprO T.Queue (sp_Queue___repr__ T) (rVar 0)) (aCons (rVar 2) aNil)))))))))
@[irreducible] def sp__law_state (T : All K mg) : Sp := rFn 1 ["_law_queue_here", "_law_found", "_law_drops", "_law_k", "_law_lags"] (t__law_state T)
theorem ok__law_state (T : All K mg) : Cal P w K mg base "_law_state" 10 ["_law_queue_here"] [] (sp__law_state T) := by
 delta sp__law_state; exact T._law_state.rcal sc__law_state fun cd A outer s H1 E1 =>
 (z_cons (z_set sc__law_state.nd rfl (s_lst (a_cons (s_meth0 T.Queue_c (ok_Queue_capacity T) (s_var (i := 0) rfl (.inr (.inl rfl)))) (a_cons (s_meth0 T.Queue_c (ok_Queue_start T) (s_var (i := 0) rfl (.inr (.inl rfl)))) (a_cons (s_meth0 T.Queue_c (ok_Queue_passed T) (s_var (i := 0) rfl (.inr (.inl rfl)))) (a_cons (s_meth0 T.Queue_c (ok_Queue_newest T) (s_var (i := 0) rfl (.inr (.inl rfl)))) (a_cons (s_meth0 T.Queue_c (ok_Queue_waiting T) (s_var (i := 0) rfl (.inr (.inl rfl)))) a_nil)))))))
 (z_cons (z_lc0 (own := [("_law_k", 3)]) (i_R1 T.n_range (a_cons s_int a_nil)) sc__law_state.nd rfl (blk_fx (by decide +kernel)) (fun _ _ _ _ _ => (g_name sc__law_state.nd rfl)) (fun _ _ _ _ _ => (s_meth T.Queue_c (ok_Queue_drop_of T) (s_var (i := 0) (by rfl) (by walk_at "G:vis")) (a_cons (s_var (i := 3) (by rfl) (by walk_at "G:vis")) a_nil))))
 (z_cons (z_set sc__law_state.nd rfl (s_lst (a_cons (s_meth0 T.Queue_c (ok_Queue_lag T) (s_var (i := 0) rfl (.inr (.inl rfl)))) (a_cons (s_meth0 T.Queue_c (ok_Queue_greatest_lag T) (s_var (i := 0) rfl (.inr (.inl rfl)))) a_nil))))
 (z_one (z_ret (s_lst (a_cons (s_var (i := 1) rfl (.inl rfl)) (a_cons (s_var (i := 4) rfl (.inl rfl)) (a_cons (s_lenO (ok_Queue___len__ T) T.n_len (s_var (i := 0) rfl (.inr (.inl rfl)))) (a_cons (s_reprO (ok_Queue___repr__ T) T.n_repr (s_var (i := 0) rfl (.inr (.inl rfl)))) (a_cons (s_var (i := 2) rfl (.inl rfl)) a_nil)))))))))))
def t_Queue_arrival_bound (T : All K mg) : RS :=
 zRet (rIf (tCmp oIs (rFld T.Queue "latest" (rVar 0)) (rC .non)) (rBin oSub (rFld T.Queue "first" (rVar 0)) (rC (.int 1))) (rFld T.Queue "latest" (rVar 0)))
@[irreducible] def sp_Queue_arrival_bound (T : All K mg) : Sp := rFn 1 ["self"] (t_Queue_arrival_bound T)
theorem fng_Queue_arrival_bound (T : All K mg) : FnG P w K mg base 1 T.Queue_arrival_bound.f T.Queue_arrival_bound.fd ["self"] (sp_Queue_arrival_bound T) := by
 delta sp_Queue_arrival_bound; exact T.Queue_arrival_bound.rfng sc_Queue_arrival_bound fun cd A outer s H1 E1 =>
 (z_one (z_ret (s_if (b_cmp o_is (s_fld T.Queue_c T.Queue_n_latest (s_var (i := 0) rfl (.inl rfl))) s_non) (s_bin o_sub (s_fld T.Queue_c T.Queue_n_first (s_var (i := 0) rfl (.inl rfl))) s_int) (s_fld T.Queue_c T.Queue_n_latest (s_var (i := 0) rfl (.inl rfl))))))
theorem ok_Queue_arrival_bound (T : All K mg) : CalM P w K mg base T.Queue "arrival_bound" 1 ["self"] [] (sp_Queue_arrival_bound T) := ⟨_, _, [], fng_Queue_arrival_bound T, T.Queue_arrival_bound.mt, T.Queue_arrival_bound.b, .nil⟩
def t_OutOfOrder___init__ (T : All K mg) : RS :=
 zCons (zExpr (rBI T.OutOfOrder (aCons (rVar 0) (aCons (rVar 1) (aCons (rVar 2) aNil)))))
 (zCons (zXFld T.OutOfOrder "version" (rVar 0) (rVar 1))
 (zXFld T.OutOfOrder "bound" (rVar 0) (rVar 2)))
@[irreducible] def sp_OutOfOrder___init__ (T : All K mg) : Sp := rFn 3 ["self", "version", "bound"] (t_OutOfOrder___init__ T)
theorem fng_OutOfOrder___init__ (T : All K mg) : FnG P w K mg base 1 T.OutOfOrder___init__.f T.OutOfOrder___init__.fd ["self", "version", "bound"] (sp_OutOfOrder___init__ T) := by
 delta sp_OutOfOrder___init__; exact T.OutOfOrder___init__.rfng sc_OutOfOrder___init__ fun cd A outer s H1 E1 =>
 (z_cons (z_expr (s_biO T.OutOfOrder_o rfl T.SamplingError_g T.SamplingError_ga T.SamplingError_rd T.SamplingError_vi hin_ValueError (a_cons (s_var (i := 0) rfl (.inl rfl)) (a_cons (s_var (i := 1) rfl (.inl rfl)) (a_cons (s_var (i := 2) rfl (.inl rfl)) a_nil)))))
 (z_cons (z_xfld T.OutOfOrder_o T.OutOfOrder_nf_version (s_var (i := 0) rfl (.inl rfl)) (s_var (i := 1) rfl (.inl rfl)))
 (z_one (z_xfld T.OutOfOrder_o T.OutOfOrder_nf_bound (s_var (i := 0) rfl (.inl rfl)) (s_var (i := 2) rfl (.inl rfl))))))
theorem ok_OutOfOrder___init__ (T : All K mg) : CalM P w K mg base T.OutOfOrder "__init__" 1 ["self", "version", "bound"] [] (sp_OutOfOrder___init__ T) := ⟨_, _, [], fng_OutOfOrder___init__ T, T.OutOfOrder___init__.mt, T.OutOfOrder___init__.b, .nil⟩
def t_Queue_arrive (T : All K mg) : RS :=
 zCons (zIf (tCmp oLe (rVar 1) (rMeth T.Queue "arrival_bound" (sp_Queue_arrival_bound T) [] (rVar 0) aNil))
 (zRaiseO T.OutOfOrder (sp_OutOfOrder___init__ T) [] (aCons (rVar 1) (aCons (rMeth T.Queue "arrival_bound" (sp_Queue_arrival_bound T) [] (rVar 0) aNil) aNil)))
 (zNil))
 (zCons (zFld T.Queue "kept" (rVar 0) (rMeth T.Arrivals "after" (sp_Arrivals_after T) [] (rMake T.Arrivals (sp_Arrivals___init__ T) [] (aCons (rFld T.Queue "mark" (rVar 0)) (aCons (rFld T.Queue "kept" (rVar 0)) (aCons (rVar 1) (aCons (rVar 2) aNil))))) (aCons (rVar 2) (aCons (rFld T.Queue "size" (rVar 0)) aNil))))
 (zCons (zFld T.Queue "latest" (rVar 0) (rVar 2))
 (zCons (zFld T.Queue "most_lag" (rVar 0) (rB cMax (aCons (rFld T.Queue "most_lag" (rVar 0)) (aCons (rMeth T.Queue "lag" (sp_Queue_lag T) [] (rVar 0) aNil) aNil))))
 (zExpr (rBm K "list" mApp (rFld T.Queue "calls" (rVar 0)) (aCons (rTup (aCons (rVar 1) (aCons (rVar 2) aNil))) aNil))))))
@[irreducible] def sp_Queue_arrive (T : All K mg) : Sp := rFn 3 ["self", "low", "high"] (t_Queue_arrive T)
theorem fng_Queue_arrive (T : All K mg) : FnG P w K mg base 8 T.Queue_arrive.f T.Queue_arrive.fd ["self", "low", "high"] (sp_Queue_arrive T) := by
 delta sp_Queue_arrive; exact T.Queue_arrive.rfng sc_Queue_arrive fun cd A outer s H1 E1 =>
 (z_cons (z_if (b_cmp o_le (s_var (i := 1) rfl (.inl rfl)) (s_meth0 T.Queue_c (ok_Queue_arrival_bound T) (s_var (i := 0) rfl (.inl rfl))))
 (z_one (z_raiseO T.OutOfOrder_o T.OutOfOrder_g (ok_OutOfOrder___init__ T) (a_cons (s_var (i := 1) rfl (.inl rfl)) (a_cons (s_meth0 T.Queue_c (ok_Queue_arrival_bound T) (s_var (i := 0) rfl (.inl rfl))) a_nil))))
 z_nil)
 (z_cons (z_fld T.Queue_c T.Queue_n_kept (s_var (i := 0) rfl (.inl rfl)) (s_meth T.Arrivals_c (ok_Arrivals_after T) (s_make T.Arrivals_k (ok_Arrivals___init__ T) (a_cons (s_fld T.Queue_c T.Queue_n_mark (s_var (i := 0) rfl (.inl rfl))) (a_cons (s_fld T.Queue_c T.Queue_n_kept (s_var (i := 0) rfl (.inl rfl))) (a_cons (s_var (i := 1) rfl (.inl rfl)) (a_cons (s_var (i := 2) rfl (.inl rfl)) a_nil))))) (a_cons (s_var (i := 2) rfl (.inl rfl)) (a_cons (s_fld T.Queue_c T.Queue_n_size (s_var (i := 0) rfl (.inl rfl))) a_nil))))
 (z_cons (z_fld T.Queue_c T.Queue_n_latest (s_var (i := 0) rfl (.inl rfl)) (s_var (i := 2) rfl (.inl rfl)))
 (z_cons (z_fld T.Queue_c T.Queue_n_most_lag (s_var (i := 0) rfl (.inl rfl)) (s_bi c_max T.n_max PyProof.Rows.boot_max (a_cons (s_fld T.Queue_c T.Queue_n_most_lag (s_var (i := 0) rfl (.inl rfl))) (a_cons (s_meth0 T.Queue_c (ok_Queue_lag T) (s_var (i := 0) rfl (.inl rfl))) a_nil))))
 (z_one (z_expr (s_bm PySem.F.plainAttrs_list PySem.F.slot_list_append PySem.F.type_list_append m_app (s_fld T.Queue_c T.Queue_n_calls (s_var (i := 0) rfl (.inl rfl))) (a_cons (s_tup (a_cons (s_var (i := 1) rfl (.inl rfl)) (a_cons (s_var (i := 2) rfl (.inl rfl)) a_nil))) a_nil))))))))
theorem ok_Queue_arrive (T : All K mg) : CalM P w K mg base T.Queue "arrive" 8 ["self", "low", "high"] [] (sp_Queue_arrive T) := ⟨_, _, [], fng_Queue_arrive T, T.Queue_arrive.mt, T.Queue_arrive.b, .nil⟩
def t_Queue_push_range (T : All K mg) : RS :=
 zCons (zExpr (rCall (sp_want_version T) [] (aCons (rVar 1) aNil)))
 (zCons (zExpr (rCall (sp_want_version T) [] (aCons (rVar 2) aNil)))
 (zCons (zIf (tCmp oLt (rVar 2) (rVar 1))
 (zRaise T.InvalidVersion (aCons (rC (.str "the range has no versions")) aNil))
 (zNil))
 (zExpr (rMeth T.Queue "arrive" (sp_Queue_arrive T) [] (rVar 0) (aCons (rVar 1) (aCons (rVar 2) aNil))))))
@[irreducible] def sp_Queue_push_range (T : All K mg) : Sp := rFn 3 ["self", "low", "high"] (t_Queue_push_range T)
theorem fng_Queue_push_range (T : All K mg) : FnG P w K mg base 9 T.Queue_push_range.f T.Queue_push_range.fd ["self", "low", "high"] (sp_Queue_push_range T) := by
 delta sp_Queue_push_range; exact T.Queue_push_range.rfng sc_Queue_push_range fun cd A outer s H1 E1 =>
 (z_cons (z_expr (s_call (ok_want_version T) (a_cons (s_var (i := 1) rfl (.inl rfl)) a_nil)))
 (z_cons (z_expr (s_call (ok_want_version T) (a_cons (s_var (i := 2) rfl (.inl rfl)) a_nil)))
 (z_cons (z_if (b_cmp o_lt (s_var (i := 2) rfl (.inl rfl)) (s_var (i := 1) rfl (.inl rfl)))
 (z_one (z_raise T.InvalidVersion_e (a_cons s_str a_nil)))
 z_nil)
 (z_one (z_expr (s_meth T.Queue_c (ok_Queue_arrive T) (s_var (i := 0) rfl (.inl rfl)) (a_cons (s_var (i := 1) rfl (.inl rfl)) (a_cons (s_var (i := 2) rfl (.inl rfl)) a_nil))))))))
theorem ok_Queue_push_range (T : All K mg) : CalM P w K mg base T.Queue "push_range" 9 ["self", "low", "high"] [] (sp_Queue_push_range T) := ⟨_, _, [], fng_Queue_push_range T, T.Queue_push_range.mt, T.Queue_push_range.b, .nil⟩
def t_Queue_arrived (T : All K mg) : RS :=
 zCons (zExpr (rCall (sp_want_version T) [] (aCons (rVar 1) aNil)))
 (zRet (rB (cAny K) (aCons (rLc (iL K (rFld T.Queue "calls" (rVar 0))) (gName 2) (tCmp oEqI (rB (cLenT K) (aCons (rVar 2) aNil)) (rC (.int 2))) (rCh oLe oLe (rBin (oIxT K) (rVar 2) (rC (.int 0))) (rVar 1) (rBin (oIxT K) (rVar 2) (rC (.int 1)))) [2]) aNil)))
@[irreducible] def sp_Queue_arrived (T : All K mg) : Sp := rFn 2 ["self", "version", "call"] (t_Queue_arrived T)
theorem fng_Queue_arrived (T : All K mg) : FnG P w K mg base 4 T.Queue_arrived.f T.Queue_arrived.fd ["self", "version"] (sp_Queue_arrived T) := by
 delta sp_Queue_arrived; exact T.Queue_arrived.rfng sc_Queue_arrived fun cd A outer s H1 E1 =>
 (z_cons (z_expr (s_call (ok_want_version T) (a_cons (s_var (i := 1) rfl (.inr (.inl rfl))) a_nil)))
 (z_one (z_ret (s_bi c_any T.n_any (by decide +kernel) (a_cons (s_lc1 (own := [("call", 2)]) (i_L (s_fld T.Queue_c T.Queue_n_calls (s_var (i := 0) rfl (.inl rfl)))) sc_Queue_arrived.nd (blk_fx (by decide +kernel)) (fun _ _ _ _ _ => (g_name sc_Queue_arrived.nd rfl)) (fun _ _ _ _ _ => (b_cmp o_eqI (s_bi c_lenT T.n_len PySem.boot_len (a_cons (s_var (i := 2) (by rfl) (by walk_at "G:vis")) a_nil)) s_int)) (fun _ _ _ _ _ => (s_ch o_le o_le (s_ix x_tup (s_var (i := 2) (by rfl) (by walk_at "G:vis")) s_int) (s_var (i := 1) (by rfl) (by walk_at "G:vis")) (s_ix x_tup (s_var (i := 2) (by rfl) (by walk_at "G:vis")) s_int)))) a_nil)))))
theorem ok_Queue_arrived (T : All K mg) : CalM P w K mg base T.Queue "arrived" 4 ["self", "version"] [] (sp_Queue_arrived T) := ⟨_, _, [], fng_Queue_arrived T, T.Queue_arrived.mt, T.Queue_arrived.b, .nil⟩
/-- return [_law_queue_here.drop_of(_law_one) for _law_one in _law_some] == [_law_twin.drop_of(_law_one) for _law_one in _law_some] -/
def k1__law_goes_on (T : All K mg) : RS :=
 zRet (rBin (oEqD K) (rLc (iL K (rVar 6)) (gName 7) tY (rMeth T.Queue "drop_of" (sp_Queue_drop_of T) [] (rVar 0) (aCons (rVar 7) aNil)) [7]) (rLc (iL K (rVar 6)) (gName 7) tY (rMeth T.Queue "drop_of" (sp_Queue_drop_of T) [] (rVar 1) (aCons (rVar 7) aNil)) [7]))
/-- if not _law_queue_here == _law_twin: -/
def k2__law_goes_on (T : All K mg) : RS :=
 zCons (zIf (tNot (tCmp (oEqO T.Queue T.Queue (sp_Queue___eq__ T)) (rVar 0) (rVar 1)))
 (zRet (rC (.bl false)))
 (zNil))
 (k1__law_goes_on T)
/-- if [_law_queue_here.arrived(_law_one) for _law_one in _law_some] != [_law_twin.arrived(_law_one) for _law_one in _law_some]: -/
def k3__law_goes_on (T : All K mg) : RS :=
 zCons (zIf (tCmp (oNeD K) (rLc (iL K (rVar 6)) (gName 7) tY (rMeth T.Queue "arrived" (sp_Queue_arrived T) [] (rVar 0) (aCons (rVar 7) aNil)) [7]) (rLc (iL K (rVar 6)) (gName 7) tY (rMeth T.Queue "arrived" (sp_Queue_arrived T) [] (rVar 1) (aCons (rVar 7) aNil)) [7]))
 (zRet (rC (.bl false)))
 (zNil))
 (k2__law_goes_on T)
/-- _law_some = [max(0, _law_first - 2), max(0, _law_first - 1), _law_first, _law_first + 1, _law_first + 4, _law_first + 9, _law_first + 20, _law_first + -/
def k4__law_goes_on (T : All K mg) : RS :=
 zCons (zSet 6 (rLst (aCons (rB cMax (aCons (rC (.int 0)) (aCons (rBin oSub (rVar 3) (rC (.int 2))) aNil))) (aCons (rB cMax (aCons (rC (.int 0)) (aCons (rBin oSub (rVar 3) (rC (.int 1))) aNil))) (aCons (rVar 3) (aCons (rBin oAdd (rVar 3) (rC (.int 1))) (aCons (rBin oAdd (rVar 3) (rC (.int 4))) (aCons (rBin oAdd (rVar 3) (rC (.int 9))) (aCons (rBin oAdd (rVar 3) (rC (.int 20))) (aCons (rBin oAdd (rVar 3) (rC (.int 29))) aNil))))))))))
 (k3__law_goes_on T)
/-- if repr(_law_waits) != _law_shown: -/
def k5__law_goes_on (T : All K mg) : RS :=
 zCons (zIf (tCmp oNeS (rB (cRepr K) (aCons (rVar 4) aNil)) (rVar 5))
 (zRet (rC (.bl false)))
 (zNil))
 (k4__law_goes_on T)
/-- _law_twin.push_range(_law_first, _law_first + 29) -/
def k6__law_goes_on (T : All K mg) : RS :=
 zCons (zExpr (rMeth T.Queue "push_range" (sp_Queue_push_range T) [] (rVar 1) (aCons (rVar 3) (aCons (rBin oAdd (rVar 3) (rC (.int 29))) aNil))))
 (k5__law_goes_on T)
/-- _law_queue_here.push_range(_law_first, _law_first + 29) -/
def k7__law_goes_on (T : All K mg) : RS :=
 zCons (zExpr (rMeth T.Queue "push_range" (sp_Queue_push_range T) [] (rVar 0) (aCons (rVar 3) (aCons (rBin oAdd (rVar 3) (rC (.int 29))) aNil))))
 (k6__law_goes_on T)
/-- _law_waits, _law_shown = (_law_queue_here.waiting(), repr(_law_queue_here.waiting())) -/
def k8__law_goes_on (T : All K mg) : RS :=
 zCons (zPar 4 5 (aCons (rMeth T.Queue "waiting" (sp_Queue_waiting T) [] (rVar 0) aNil) (aCons (rB (cRepr K) (aCons (rMeth T.Queue "waiting" (sp_Queue_waiting T) [] (rVar 0) aNil) aNil)) aNil)))
 (k7__law_goes_on T)
/-- if [_law_queue_here.arrived(_law_first), _law_queue_here.arrived(_law_first + 5)] != [False, False]: -/
def k9__law_goes_on (T : All K mg) : RS :=
 zCons (zIf (tCmp (oNeD K) (rLst (aCons (rMeth T.Queue "arrived" (sp_Queue_arrived T) [] (rVar 0) (aCons (rVar 3) aNil)) (aCons (rMeth T.Queue "arrived" (sp_Queue_arrived T) [] (rVar 0) (aCons (rBin oAdd (rVar 3) (rC (.int 5))) aNil)) aNil))) (rLst (aCons (rC (.bl false)) (aCons (rC (.bl false)) aNil))))
 (zRet (rC (.bl false)))
 (zNil))
 (k8__law_goes_on T)
/-- _law_first = _law_queue_here.start() if _law_newest is None else _law_newest + 1 -/
def k10__law_goes_on (T : All K mg) : RS :=
 zCons (zSet 3 (rIf (tCmp oIs (rVar 2) (rC .non)) (rMeth T.Queue "start" (sp_Queue_start T) [] (rVar 0) aNil) (rBin oAdd (rVar 2) (rC (.int 1)))))
 (k9__law_goes_on T)
def t__law_goes_on (T : All K mg) : RS :=
 zCons (zSet 2 (rMeth T.Queue "newest" (sp_Queue_newest T) [] (rVar 0) aNil))
 (k10__law_goes_on T)
@[irreducible] def sp__law_goes_on (T : All K mg) : Sp := rFn 2 ["_law_queue_here", "_law_twin", "_law_newest", "_law_first", "_law_waits", "_law_shown", "_law_some", "_law_one"] (t__law_goes_on T)
theorem ok__law_goes_on (T : All K mg) : Cal P w K mg base "_law_goes_on" 10 ["_law_queue_here", "_law_twin"] [] (sp__law_goes_on T) := by
 delta sp__law_goes_on; exact T._law_goes_on.rcal sc__law_goes_on fun cd A outer s H1 E1 =>
 (z_cons (z_set sc__law_goes_on.nd rfl (s_meth0 T.Queue_c (ok_Queue_newest T) (s_var (i := 0) rfl (.inr (.inl rfl)))))
 (z_cons (z_set sc__law_goes_on.nd rfl (s_if (b_cmp o_is (s_var (i := 2) rfl (.inl rfl)) s_non) (s_meth0 T.Queue_c (ok_Queue_start T) (s_var (i := 0) rfl (.inr (.inl rfl)))) (s_bin o_add (s_var (i := 2) rfl (.inl rfl)) s_int)))
 (z_cons (z_if (b_cmpr2 o_neD (s_lst (a_cons (s_meth T.Queue_c (ok_Queue_arrived T) (s_var (i := 0) rfl (.inr (.inl rfl))) (a_cons (s_var (i := 3) rfl (.inl rfl)) a_nil)) (a_cons (s_meth T.Queue_c (ok_Queue_arrived T) (s_var (i := 0) rfl (.inr (.inl rfl))) (a_cons (s_bin o_add (s_var (i := 3) rfl (.inl rfl)) s_int) a_nil)) a_nil))) (s_lst (a_cons s_bl (a_cons s_bl a_nil))))
 (z_one (z_ret s_bl))
 z_nil)
 (z_cons (z_par (i := 4) (l := 5) sc__law_goes_on.nd rfl rfl (a_cons (s_meth0 T.Queue_c (ok_Queue_waiting T) (s_var (i := 0) rfl (.inr (.inl rfl)))) (a_cons (s_repr T.n_repr (a_cons (s_meth0 T.Queue_c (ok_Queue_waiting T) (s_var (i := 0) rfl (.inr (.inl rfl)))) a_nil)) a_nil)))
 (z_cons (z_expr (s_meth T.Queue_c (ok_Queue_push_range T) (s_var (i := 0) rfl (.inr (.inl rfl))) (a_cons (s_var (i := 3) rfl (.inl rfl)) (a_cons (s_bin o_add (s_var (i := 3) rfl (.inl rfl)) s_int) a_nil))))
 (z_cons (z_expr (s_meth T.Queue_c (ok_Queue_push_range T) (s_var (i := 1) rfl (.inr (.inl rfl))) (a_cons (s_var (i := 3) rfl (.inl rfl)) (a_cons (s_bin o_add (s_var (i := 3) rfl (.inl rfl)) s_int) a_nil))))
 (z_cons (z_if (b_cmp o_neS (s_repr T.n_repr (a_cons (s_var (i := 4) rfl (.inl rfl)) a_nil)) (s_var (i := 5) rfl (.inl rfl)))
 (z_one (z_ret s_bl))
 z_nil)
 (z_cons (z_set sc__law_goes_on.nd rfl (s_lst (a_cons (s_bi c_max T.n_max PyProof.Rows.boot_max (a_cons s_int (a_cons (s_bin o_sub (s_var (i := 3) rfl (.inl rfl)) s_int) a_nil))) (a_cons (s_bi c_max T.n_max PyProof.Rows.boot_max (a_cons s_int (a_cons (s_bin o_sub (s_var (i := 3) rfl (.inl rfl)) s_int) a_nil))) (a_cons (s_var (i := 3) rfl (.inl rfl)) (a_cons (s_bin o_add (s_var (i := 3) rfl (.inl rfl)) s_int) (a_cons (s_bin o_add (s_var (i := 3) rfl (.inl rfl)) s_int) (a_cons (s_bin o_add (s_var (i := 3) rfl (.inl rfl)) s_int) (a_cons (s_bin o_add (s_var (i := 3) rfl (.inl rfl)) s_int) (a_cons (s_bin o_add (s_var (i := 3) rfl (.inl rfl)) s_int) a_nil))))))))))
 (z_cons (z_if (b_cmpr2 o_neD (s_lc0 (own := [("_law_one", 7)]) (i_L (s_var (i := 6) rfl (.inl rfl))) sc__law_goes_on.nd (blk_fx (by decide +kernel)) (fun _ _ _ _ _ => (g_name sc__law_goes_on.nd rfl)) (fun _ _ _ _ _ => (s_meth T.Queue_c (ok_Queue_arrived T) (s_var (i := 0) (by rfl) (by walk_at "G:vis")) (a_cons (s_var (i := 7) (by rfl) (by walk_at "G:vis")) a_nil)))) (s_lc0 (own := [("_law_one", 7)]) (i_L (s_var (i := 6) rfl (.inl rfl))) sc__law_goes_on.nd (blk_fx (by decide +kernel)) (fun _ _ _ _ _ => (g_name sc__law_goes_on.nd rfl)) (fun _ _ _ _ _ => (s_meth T.Queue_c (ok_Queue_arrived T) (s_var (i := 1) (by rfl) (by walk_at "G:vis")) (a_cons (s_var (i := 7) (by rfl) (by walk_at "G:vis")) a_nil)))))
 (z_one (z_ret s_bl))
 z_nil)
 (z_cons (z_if (b_not (b_cmpc (o_eqO (ok_Queue___eq__ T)) (s_var (i := 0) rfl (.inr (.inl rfl))) (s_var (i := 1) rfl (.inr (.inl rfl)))))
 (z_one (z_ret s_bl))
 z_nil)
 (z_one (z_ret (s_cmpr2 o_eqD (s_lc0 (own := [("_law_one", 7)]) (i_L (s_var (i := 6) rfl (.inl rfl))) sc__law_goes_on.nd (blk_fx (by decide +kernel)) (fun _ _ _ _ _ => (g_name sc__law_goes_on.nd rfl)) (fun _ _ _ _ _ => (s_meth T.Queue_c (ok_Queue_drop_of T) (s_var (i := 0) (by rfl) (by walk_at "G:vis")) (a_cons (s_var (i := 7) (by rfl) (by walk_at "G:vis")) a_nil)))) (s_lc0 (own := [("_law_one", 7)]) (i_L (s_var (i := 6) rfl (.inl rfl))) sc__law_goes_on.nd (blk_fx (by decide +kernel)) (fun _ _ _ _ _ => (g_name sc__law_goes_on.nd rfl)) (fun _ _ _ _ _ => (s_meth T.Queue_c (ok_Queue_drop_of T) (s_var (i := 1) (by rfl) (by walk_at "G:vis")) (a_cons (s_var (i := 7) (by rfl) (by walk_at "G:vis")) a_nil)))))))))))))))))
def t__law_next (T : All K mg) : RS :=
 zCons (zSet 2 (rMeth T.Queue "newest" (sp_Queue_newest T) [] (rVar 1) aNil))
 (zCons (zSet 3 (rIf (tCmp oIs (rVar 2) (rC .non)) (rMeth T.Queue "start" (sp_Queue_start T) [] (rVar 1) aNil) (rBin oAdd (rVar 2) (rC (.int 1)))))
 (zRet (rBin oAdd (rVar 3) (rCall (sp__law_pick T) [] (aCons (rVar 0) (aCons (rLst (aCons (rC (.int 0)) (aCons (rC (.int 0)) (aCons (rC (.int 0)) (aCons (rC (.int 1)) (aCons (rCall (sp__law_digit T) [] (aCons (rVar 0) (aCons (rC (.int 12)) aNil))) aNil)))))) aNil))))))
@[irreducible] def sp__law_next (T : All K mg) : Sp := rFn 2 ["_law_pot_here", "_law_queue_here", "_law_newest", "_law_first"] (t__law_next T)
theorem ok__law_next (T : All K mg) : Cal P w K mg base "_law_next" 3 ["_law_pot_here", "_law_queue_here"] [] (sp__law_next T) := by
 delta sp__law_next; exact T._law_next.rcal sc__law_next fun cd A outer s H1 E1 =>
 (z_cons (z_set sc__law_next.nd rfl (s_meth0 T.Queue_c (ok_Queue_newest T) (s_var (i := 1) rfl (.inl rfl))))
 (z_cons (z_set sc__law_next.nd rfl (s_if (b_cmp o_is (s_var (i := 2) rfl (.inl rfl)) s_non) (s_meth0 T.Queue_c (ok_Queue_start T) (s_var (i := 1) rfl (.inl rfl))) (s_bin o_add (s_var (i := 2) rfl (.inl rfl)) s_int)))
 (z_one (z_ret (s_bin o_add (s_var (i := 3) rfl (.inl rfl)) (s_call (ok__law_pick T) (a_cons (s_var (i := 0) rfl (.inl rfl)) (a_cons (s_lst (a_cons s_int (a_cons s_int (a_cons s_int (a_cons s_int (a_cons (s_call (ok__law_digit T) (a_cons (s_var (i := 0) rfl (.inl rfl)) (a_cons s_int a_nil))) a_nil)))))) a_nil))))))))
def t_Queue_push (T : All K mg) : RS :=
 zCons (zExpr (rCall (sp_want_version T) [] (aCons (rVar 1) aNil)))
 (zCons (zSet 2 (rB (cListL K) (aCons (rFld T.Queue "kept" (rVar 0)) aNil)))
 (zCons (zExpr (rMeth T.Queue "arrive" (sp_Queue_arrive T) [] (rVar 0) (aCons (rVar 1) (aCons (rVar 1) aNil))))
 (zCons (zSet 3 (rLc (iL K (rVar 2)) (gName 4) (tCmp (oNiL K) (rVar 4) (rFld T.Queue "kept" (rVar 0))) (rVar 4) [4]))
 (zRet (rIf (tCmp (oNeD K) (rVar 3) (rLst (aNil))) (rBin (oIxL K) (rVar 3) (rC (.int 0))) (rC .non))))))
@[irreducible] def sp_Queue_push (T : All K mg) : Sp := rFn 2 ["self", "version", "waited", "dropped", "other"] (t_Queue_push T)
theorem fng_Queue_push (T : All K mg) : FnG P w K mg base 9 T.Queue_push.f T.Queue_push.fd ["self", "version"] (sp_Queue_push T) := by
 delta sp_Queue_push; exact T.Queue_push.rfng sc_Queue_push fun cd A outer s H1 E1 =>
 (z_cons (z_expr (s_call (ok_want_version T) (a_cons (s_var (i := 1) rfl (.inl rfl)) a_nil)))
 (z_cons (z_set sc_Queue_push.nd rfl (s_bt c_listL T.n_list PyProof.Rows.boot_list (a_cons (s_fld T.Queue_c T.Queue_n_kept (s_var (i := 0) rfl (.inr (.inl rfl)))) a_nil)))
 (z_cons (z_expr (s_meth T.Queue_c (ok_Queue_arrive T) (s_var (i := 0) rfl (.inr (.inl rfl))) (a_cons (s_var (i := 1) rfl (.inl rfl)) (a_cons (s_var (i := 1) rfl (.inl rfl)) a_nil))))
 (z_cons (z_lc1 (own := [("other", 4)]) (i_L (s_var (i := 2) rfl (.inl rfl))) sc_Queue_push.nd rfl (blk_fx (by decide +kernel)) (fun _ _ _ _ _ => (g_name sc_Queue_push.nd rfl)) (fun _ _ _ _ _ => (b_cmp o_niL (s_var (i := 4) (by rfl) (by walk_at "G:vis")) (s_fld T.Queue_c T.Queue_n_kept (s_var (i := 0) (by rfl) (by walk_at "G:vis"))))) (fun _ _ _ _ _ => (s_var (i := 4) (by rfl) (by walk_at "G:vis"))))
 (z_one (z_ret (s_if (b_cmpr2 o_neD (s_var (i := 3) rfl (.inl rfl)) (s_lst a_nil)) (s_ix x_lst (s_var (i := 3) rfl (.inl rfl)) s_int) s_non)))))))
theorem ok_Queue_push (T : All K mg) : CalM P w K mg base T.Queue "push" 9 ["self", "version"] [] (sp_Queue_push T) := ⟨_, _, [], fng_Queue_push T, T.Queue_push.mt, T.Queue_push.b, .nil⟩
def t_Queue_advance (T : All K mg) : RS :=
 zCons (zExpr (rCall (sp_want_version T) [] (aCons (rVar 1) aNil)))
 (zCons (zIf (tCmp oLe (rVar 1) (rFld T.Queue "mark" (rVar 0)))
 (zRaiseO T.OutOfOrder (sp_OutOfOrder___init__ T) [] (aCons (rVar 1) (aCons (rFld T.Queue "mark" (rVar 0)) aNil)))
 (zNil))
 (zCons (zFld T.Queue "kept" (rVar 0) (rLc (iL K (rFld T.Queue "kept" (rVar 0))) (gName 2) (tCmp oGt (rVar 2) (rVar 1)) (rVar 2) [2]))
 (zCons (zFld T.Queue "mark" (rVar 0) (rVar 1))
 (zExpr (rBm K "list" mApp (rFld T.Queue "calls" (rVar 0)) (aCons (rTup (aCons (rVar 1) aNil)) aNil))))))
@[irreducible] def sp_Queue_advance (T : All K mg) : Sp := rFn 2 ["self", "version", "other"] (t_Queue_advance T)
theorem fng_Queue_advance (T : All K mg) : FnG P w K mg base 4 T.Queue_advance.f T.Queue_advance.fd ["self", "version"] (sp_Queue_advance T) := by
 delta sp_Queue_advance; exact T.Queue_advance.rfng sc_Queue_advance fun cd A outer s H1 E1 =>
 (z_cons (z_expr (s_call (ok_want_version T) (a_cons (s_var (i := 1) rfl (.inr (.inl rfl))) a_nil)))
 (z_cons (z_if (b_cmp o_le (s_var (i := 1) rfl (.inr (.inl rfl))) (s_fld T.Queue_c T.Queue_n_mark (s_var (i := 0) rfl (.inl rfl))))
 (z_one (z_raiseO T.OutOfOrder_o T.OutOfOrder_g (ok_OutOfOrder___init__ T) (a_cons (s_var (i := 1) rfl (.inr (.inl rfl))) (a_cons (s_fld T.Queue_c T.Queue_n_mark (s_var (i := 0) rfl (.inl rfl))) a_nil))))
 z_nil)
 (z_cons (z_fld T.Queue_c T.Queue_n_kept (s_var (i := 0) rfl (.inl rfl)) (s_lc1 (own := [("other", 2)]) (i_L (s_fld T.Queue_c T.Queue_n_kept (s_var (i := 0) rfl (.inl rfl)))) sc_Queue_advance.nd (blk_fx (by decide +kernel)) (fun _ _ _ _ _ => (g_name sc_Queue_advance.nd rfl)) (fun _ _ _ _ _ => (b_cmp o_gt (s_var (i := 2) (by rfl) (by walk_at "G:vis")) (s_var (i := 1) (by rfl) (by walk_at "G:vis")))) (fun _ _ _ _ _ => (s_var (i := 2) (by rfl) (by walk_at "G:vis")))))
 (z_cons (z_fld T.Queue_c T.Queue_n_mark (s_var (i := 0) rfl (.inl rfl)) (s_var (i := 1) rfl (.inr (.inl rfl))))
 (z_one (z_expr (s_bm PySem.F.plainAttrs_list PySem.F.slot_list_append PySem.F.type_list_append m_app (s_fld T.Queue_c T.Queue_n_calls (s_var (i := 0) rfl (.inl rfl))) (a_cons (s_tup (a_cons (s_var (i := 1) rfl (.inr (.inl rfl))) a_nil)) a_nil))))))))
theorem ok_Queue_advance (T : All K mg) : CalM P w K mg base T.Queue "advance" 4 ["self", "version"] [] (sp_Queue_advance T) := ⟨_, _, [], fng_Queue_advance T, T.Queue_advance.mt, T.Queue_advance.b, .nil⟩
def t__law_call (T : All K mg) : RS :=
 zCons (zSet 2 (rCall (sp__law_digit T) [] (aCons (rVar 0) (aCons (rC (.int 8)) aNil))))
 (zCons (zSet 3 (rCall (sp__law_next T) [] (aCons (rVar 0) (aCons (rVar 1) aNil))))
 (zCons (zIf (tCmp oLt (rVar 2) (rC (.int 3)))
 (zExpr (rMeth T.Queue "push" (sp_Queue_push T) [] (rVar 1) (aCons (rVar 3) aNil)))
 (zIf (tCmp oLt (rVar 2) (rC (.int 6)))
 (zExpr (rMeth T.Queue "push_range" (sp_Queue_push_range T) [] (rVar 1) (aCons (rVar 3) (aCons (rBin oAdd (rVar 3) (rCall (sp__law_pick T) [] (aCons (rVar 0) (aCons (rLst (aCons (rC (.int 0)) (aCons (rC (.int 1)) (aCons (rC (.int 7)) (aCons (rCall (sp__law_digit T) [] (aCons (rVar 0) (aCons (rC (.int 60)) aNil))) (aCons (rCall (sp__law_digit T) [] (aCons (rVar 0) (aCons (rBin oPow (rC (.int 10)) (rC (.int 20))) aNil))) aNil)))))) aNil)))) aNil))))
 (zCons (zSet 4 (rBin oAdd (rBin oAdd (rMeth T.Queue "passed" (sp_Queue_passed T) [] (rVar 1) aNil) (rC (.int 1))) (rCall (sp__law_pick T) [] (aCons (rVar 0) (aCons (rLst (aCons (rC (.int 0)) (aCons (rC (.int 1)) (aCons (rCall (sp__law_digit T) [] (aCons (rVar 0) (aCons (rC (.int 10)) aNil))) (aCons (rCall (sp__law_digit T) [] (aCons (rVar 0) (aCons (rBin oPow (rC (.int 10)) (rC (.int 18))) aNil))) aNil))))) aNil)))))
 (zCons (zSet 5 (rMeth T.Queue "waiting" (sp_Queue_waiting T) [] (rVar 1) aNil))
 (zCons (zIf (tAnd (tCmp oEqI (rVar 2) (rC (.int 6))) (tCmp (oNeD K) (rVar 5) (rLst (aNil))))
 (zSet 4 (rB cMax (aCons (rBin oAdd (rMeth T.Queue "passed" (sp_Queue_passed T) [] (rVar 1) aNil) (rC (.int 1))) (aCons (rCall (sp__law_pick T) [] (aCons (rVar 0) (aCons (rVar 5) aNil))) aNil))))
 (zNil))
 (zExpr (rMeth T.Queue "advance" (sp_Queue_advance T) [] (rVar 1) (aCons (rVar 4) aNil))))))))
 (zRet (rTup (aCons (rVar 3) (aCons (rVar 2) aNil))))))
@[irreducible] def sp__law_call (T : All K mg) : Sp := rFn 2 ["_law_pot_here", "_law_queue_here", "_law_way", "_law_first", "_law_goal", "_law_waits"] (t__law_call T)
theorem ok__law_call (T : All K mg) : Cal P w K mg base "_law_call" 10 ["_law_pot_here", "_law_queue_here"] [] (sp__law_call T) := by
 delta sp__law_call; exact T._law_call.rcal sc__law_call fun cd A outer s H1 E1 =>
 (z_cons (z_set sc__law_call.nd rfl (s_call (ok__law_digit T) (a_cons (s_var (i := 0) rfl (.inl rfl)) (a_cons s_int a_nil))))
 (z_cons (z_set sc__law_call.nd rfl (s_call (ok__law_next T) (a_cons (s_var (i := 0) rfl (.inl rfl)) (a_cons (s_var (i := 1) rfl (.inl rfl)) a_nil))))
 (z_cons (z_if (b_cmp o_lt (s_var (i := 2) rfl (.inl rfl)) s_int)
 (z_one (z_expr (s_meth T.Queue_c (ok_Queue_push T) (s_var (i := 1) rfl (.inl rfl)) (a_cons (s_var (i := 3) rfl (.inl rfl)) a_nil))))
 (z_one (z_if (b_cmp o_lt (s_var (i := 2) rfl (.inl rfl)) s_int)
 (z_one (z_expr (s_meth T.Queue_c (ok_Queue_push_range T) (s_var (i := 1) rfl (.inl rfl)) (a_cons (s_var (i := 3) rfl (.inl rfl)) (a_cons (s_bin o_add (s_var (i := 3) rfl (.inl rfl)) (s_call (ok__law_pick T) (a_cons (s_var (i := 0) rfl (.inl rfl)) (a_cons (s_lst (a_cons s_int (a_cons s_int (a_cons s_int (a_cons (s_call (ok__law_digit T) (a_cons (s_var (i := 0) rfl (.inl rfl)) (a_cons s_int a_nil))) (a_cons (s_call (ok__law_digit T) (a_cons (s_var (i := 0) rfl (.inl rfl)) (a_cons (s_bin o_pow s_int s_int) a_nil))) a_nil)))))) a_nil)))) a_nil)))))
 (z_cons (z_set sc__law_call.nd rfl (s_bin o_add (s_bin o_add (s_meth0 T.Queue_c (ok_Queue_passed T) (s_var (i := 1) rfl (.inl rfl))) s_int) (s_call (ok__law_pick T) (a_cons (s_var (i := 0) rfl (.inl rfl)) (a_cons (s_lst (a_cons s_int (a_cons s_int (a_cons (s_call (ok__law_digit T) (a_cons (s_var (i := 0) rfl (.inl rfl)) (a_cons s_int a_nil))) (a_cons (s_call (ok__law_digit T) (a_cons (s_var (i := 0) rfl (.inl rfl)) (a_cons (s_bin o_pow s_int s_int) a_nil))) a_nil))))) a_nil)))))
 (z_cons (z_set sc__law_call.nd rfl (s_meth0 T.Queue_c (ok_Queue_waiting T) (s_var (i := 1) rfl (.inl rfl))))
 (z_cons (z_if (b_ww (w_and (b_cmp o_eqI (s_var (i := 2) rfl (.inl rfl)) s_int) (w_and1 (b_cmpr2 o_neD (s_var (i := 5) rfl (.inl rfl)) (s_lst a_nil)))))
 (z_one (z_set sc__law_call.nd rfl (s_bi c_max T.n_max PyProof.Rows.boot_max (a_cons (s_bin o_add (s_meth0 T.Queue_c (ok_Queue_passed T) (s_var (i := 1) rfl (.inl rfl))) s_int) (a_cons (s_call (ok__law_pick T) (a_cons (s_var (i := 0) rfl (.inl rfl)) (a_cons (s_var (i := 5) rfl (.inl rfl)) a_nil))) a_nil)))))
 z_nil)
 (z_one (z_expr (s_meth T.Queue_c (ok_Queue_advance T) (s_var (i := 1) rfl (.inl rfl)) (a_cons (s_var (i := 4) rfl (.inl rfl)) a_nil))))))))))
 (z_one (z_ret (s_tup (a_cons (s_var (i := 3) rfl (.inl rfl)) (a_cons (s_var (i := 2) rfl (.inl rfl)) a_nil))))))))
def t_NotRemembered___init__ (T : All K mg) : RS :=
 zCons (zExpr (rBI T.NotRemembered (aCons (rVar 0) (aCons (rVar 1) aNil))))
 (zXFld T.NotRemembered "version" (rVar 0) (rVar 1))
@[irreducible] def sp_NotRemembered___init__ (T : All K mg) : Sp := rFn 2 ["self", "version"] (t_NotRemembered___init__ T)
theorem fng_NotRemembered___init__ (T : All K mg) : FnG P w K mg base 1 T.NotRemembered___init__.f T.NotRemembered___init__.fd ["self", "version"] (sp_NotRemembered___init__ T) := by
 delta sp_NotRemembered___init__; exact T.NotRemembered___init__.rfng sc_NotRemembered___init__ fun cd A outer s H1 E1 =>
 (z_cons (z_expr (s_biT T.NotRemembered_o rfl T.n_KeyError boot_KeyError typ_KeyError stub_KeyError T.KeyError_vi hin_KeyError (a_cons (s_var (i := 0) rfl (.inl rfl)) (a_cons (s_var (i := 1) rfl (.inl rfl)) a_nil))))
 (z_one (z_xfld T.NotRemembered_o T.NotRemembered_nf_version (s_var (i := 0) rfl (.inl rfl)) (s_var (i := 1) rfl (.inl rfl)))))
theorem ok_NotRemembered___init__ (T : All K mg) : CalM P w K mg base T.NotRemembered "__init__" 1 ["self", "version"] [] (sp_NotRemembered___init__ T) := ⟨_, _, [], fng_NotRemembered___init__ T, T.NotRemembered___init__.mt, T.NotRemembered___init__.b, .nil⟩
def t__law_written (T : All K mg) : RS :=
 zCons (zSet 1 (rBin oAddS (rBin oAddS (rBin oAddS (rC (.str "capacity=")) (rB (cStr K) (aCons (rMeth T.Queue "capacity" (sp_Queue_capacity T) [] (rVar 0) aNil) aNil))) (rC (.str ", start="))) (rB (cStr K) (aCons (rMeth T.Queue "start" (sp_Queue_start T) [] (rVar 0) aNil) aNil))))
 (zCons (zSet 1 (rBin oAddS (rBin oAddS (rVar 1) (rC (.str ", passed="))) (rB (cStr K) (aCons (rMeth T.Queue "passed" (sp_Queue_passed T) [] (rVar 0) aNil) aNil))))
 (zCons (zSet 1 (rBin oAddS (rBin oAddS (rVar 1) (rC (.str ", newest="))) (rB (cStr K) (aCons (rMeth T.Queue "newest" (sp_Queue_newest T) [] (rVar 0) aNil) aNil))))
 (zRet (rBin oAddS (rBin oAddS (rBin oAddS (rBin oAddS (rC (.str "Queue(")) (rVar 1)) (rC (.str ", waiting="))) (rB (cStr K) (aCons (rMeth T.Queue "waiting" (sp_Queue_waiting T) [] (rVar 0) aNil) aNil))) (rC (.str ")"))))))
@[irreducible] def sp__law_written (T : All K mg) : Sp := rFn 1 ["_law_queue_here", "_law_numbers"] (t__law_written T)
theorem ok__law_written (T : All K mg) : Cal P w K mg base "_law_written" 2 ["_law_queue_here"] [] (sp__law_written T) := by
 delta sp__law_written; exact T._law_written.rcal sc__law_written fun cd A outer s H1 E1 =>
 (z_cons (z_set sc__law_written.nd rfl (s_bin o_addS (s_bin o_addS (s_bin o_addS s_str (s_strC T.n_str (a_cons (s_meth0 T.Queue_c (ok_Queue_capacity T) (s_var (i := 0) rfl (.inl rfl))) a_nil))) s_str) (s_strC T.n_str (a_cons (s_meth0 T.Queue_c (ok_Queue_start T) (s_var (i := 0) rfl (.inl rfl))) a_nil))))
 (z_cons (z_set sc__law_written.nd rfl (s_bin o_addS (s_bin o_addS (s_var (i := 1) rfl (.inl rfl)) s_str) (s_strC T.n_str (a_cons (s_meth0 T.Queue_c (ok_Queue_passed T) (s_var (i := 0) rfl (.inl rfl))) a_nil))))
 (z_cons (z_set sc__law_written.nd rfl (s_bin o_addS (s_bin o_addS (s_var (i := 1) rfl (.inl rfl)) s_str) (s_strC T.n_str (a_cons (s_meth0 T.Queue_c (ok_Queue_newest T) (s_var (i := 0) rfl (.inl rfl))) a_nil))))
 (z_one (z_ret (s_bin o_addS (s_bin o_addS (s_bin o_addS (s_bin o_addS s_str (s_var (i := 1) rfl (.inl rfl))) s_str) (s_strC T.n_str (a_cons (s_meth0 T.Queue_c (ok_Queue_waiting T) (s_var (i := 0) rfl (.inl rfl))) a_nil))) s_str))))))
def t__law_bad (T : All K mg) : RS :=
 zRet (rCall (sp__law_pick T) [] (aCons (rVar 0) (aCons (rLst (aCons (rC .non) (aCons (rNeg (rC (.int 1))) (aCons (rC (.bl true)) (aCons (rC (.bl false)) (aCons (rC (.str "1")) (aCons (rC (.str "")) (aCons (rTup (aNil)) (aCons (rLst (aNil)) (aCons (rDct0) (aCons (rTup (aCons (rC (.int 1)) aNil)) (aCons (rLst (aCons (rC (.int 1)) aNil)) (aCons (rNeg (rBin oPow (rC (.int 10)) (rC (.int 30)))) aNil))))))))))))) aNil)))
@[irreducible] def sp__law_bad (T : All K mg) : Sp := rFn 1 ["_law_pot_here"] (t__law_bad T)
theorem ok__law_bad (T : All K mg) : Cal P w K mg base "_law_bad" 3 ["_law_pot_here"] [] (sp__law_bad T) := by
 delta sp__law_bad; exact T._law_bad.rcal sc__law_bad fun cd A outer s H1 E1 =>
 (z_one (z_ret (s_call (ok__law_pick T) (a_cons (s_var (i := 0) rfl (.inl rfl)) (a_cons (s_lst (a_cons s_non (a_cons (s_neg s_int) (a_cons s_bl (a_cons s_bl (a_cons s_str (a_cons s_str (a_cons (s_tup a_nil) (a_cons (s_lst a_nil) (a_cons s_dct0 (a_cons (s_tup (a_cons s_int a_nil)) (a_cons (s_lst (a_cons s_int a_nil)) (a_cons (s_neg (s_bin o_pow s_int s_int)) a_nil))))))))))))) a_nil)))))
def t_Queue_forecast (T : All K mg) : RS :=
 zCons (zExpr (rCall (sp_want_number T) [] (aCons (rVar 1) (aCons (rC (.int 0)) aNil))))
 (zCons (zSet 2 (rBin oAdd (rMeth T.Queue "arrival_bound" (sp_Queue_arrival_bound T) [] (rVar 0) aNil) (rC (.int 1))))
 (zRet (rMeth T.Arrivals "after" (sp_Arrivals_after T) [] (rMake T.Arrivals (sp_Arrivals___init__ T) [] (aCons (rFld T.Queue "mark" (rVar 0)) (aCons (rFld T.Queue "kept" (rVar 0)) (aCons (rVar 2) (aCons (rBin oSub (rBin oAdd (rVar 2) (rVar 1)) (rC (.int 1))) aNil))))) (aCons (rBin oSub (rBin oAdd (rVar 2) (rVar 1)) (rC (.int 1))) (aCons (rFld T.Queue "size" (rVar 0)) aNil)))))
@[irreducible] def sp_Queue_forecast (T : All K mg) : Sp := rFn 2 ["self", "count", "low"] (t_Queue_forecast T)
theorem fng_Queue_forecast (T : All K mg) : FnG P w K mg base 8 T.Queue_forecast.f T.Queue_forecast.fd ["self", "count"] (sp_Queue_forecast T) := by
 delta sp_Queue_forecast; exact T.Queue_forecast.rfng sc_Queue_forecast fun cd A outer s H1 E1 =>
 (z_cons (z_expr (s_call (ok_want_number T) (a_cons (s_var (i := 1) rfl (.inl rfl)) (a_cons s_int a_nil))))
 (z_cons (z_set sc_Queue_forecast.nd rfl (s_bin o_add (s_meth0 T.Queue_c (ok_Queue_arrival_bound T) (s_var (i := 0) rfl (.inl rfl))) s_int))
 (z_one (z_ret (s_meth T.Arrivals_c (ok_Arrivals_after T) (s_make T.Arrivals_k (ok_Arrivals___init__ T) (a_cons (s_fld T.Queue_c T.Queue_n_mark (s_var (i := 0) rfl (.inl rfl))) (a_cons (s_fld T.Queue_c T.Queue_n_kept (s_var (i := 0) rfl (.inl rfl))) (a_cons (s_var (i := 2) rfl (.inl rfl)) (a_cons (s_bin o_sub (s_bin o_add (s_var (i := 2) rfl (.inl rfl)) (s_var (i := 1) rfl (.inl rfl))) s_int) a_nil))))) (a_cons (s_bin o_sub (s_bin o_add (s_var (i := 2) rfl (.inl rfl)) (s_var (i := 1) rfl (.inl rfl))) s_int) (a_cons (s_fld T.Queue_c T.Queue_n_size (s_var (i := 0) rfl (.inl rfl))) a_nil)))))))
theorem ok_Queue_forecast (T : All K mg) : CalM P w K mg base T.Queue "forecast" 8 ["self", "count"] [] (sp_Queue_forecast T) := ⟨_, _, [], fng_Queue_forecast T, T.Queue_forecast.mt, T.Queue_forecast.b, .nil⟩
def t__law_called (T : All K mg) : RS :=
 zCons (zIf (tCmp oEqS (rVar 0) (rC (.str "push")))
 (zRet (rMeth T.Queue "push" (sp_Queue_push T) [] (rVar 1) (aCons (rVar 2) aNil)))
 (zNil))
 (zCons (zIf (tCmp oEqS (rVar 0) (rC (.str "range")))
 (zRet (rMeth T.Queue "push_range" (sp_Queue_push_range T) [] (rVar 1) (aCons (rVar 2) (aCons (rVar 3) aNil))))
 (zNil))
 (zCons (zIf (tCmp oEqS (rVar 0) (rC (.str "advance")))
 (zRet (rMeth T.Queue "advance" (sp_Queue_advance T) [] (rVar 1) (aCons (rVar 2) aNil)))
 (zNil))
 (zCons (zIf (tCmp oEqS (rVar 0) (rC (.str "forecast")))
 (zRet (rMeth T.Queue "forecast" (sp_Queue_forecast T) [] (rVar 1) (aCons (rVar 2) aNil)))
 (zNil))
 (zCons (zIf (tCmp oEqS (rVar 0) (rC (.str "arrived")))
 (zRet (rMeth T.Queue "arrived" (sp_Queue_arrived T) [] (rVar 1) (aCons (rVar 2) aNil)))
 (zNil))
 (zCons (zIf (tCmp oEqS (rVar 0) (rC (.str "drop")))
 (zRet (rMeth T.Queue "drop_of" (sp_Queue_drop_of T) [] (rVar 1) (aCons (rVar 2) aNil)))
 (zNil))
 (zRet (rMakeN T.Queue (sp_Queue___init__ T) 2 1 (reo [0, 1, 2]) (aCons (rVar 2) aNil) (aCons (rVar 3) aNil))))))))
@[irreducible] def sp__law_called (T : All K mg) : Sp := rFn 4 ["_law_way", "_law_queue_here", "_law_one", "_law_other"] (t__law_called T)
theorem ok__law_called (T : All K mg) : Cal P w K mg base "_law_called" 10 ["_law_way", "_law_queue_here", "_law_one", "_law_other"] [] (sp__law_called T) := by
 delta sp__law_called; exact T._law_called.rcal sc__law_called fun cd A outer s H1 E1 =>
 (z_cons (z_if (b_cmp o_eqS (s_var (i := 0) rfl (.inl rfl)) s_str)
 (z_one (z_ret (s_meth T.Queue_c (ok_Queue_push T) (s_var (i := 1) rfl (.inl rfl)) (a_cons (s_var (i := 2) rfl (.inl rfl)) a_nil))))
 z_nil)
 (z_cons (z_if (b_cmp o_eqS (s_var (i := 0) rfl (.inl rfl)) s_str)
 (z_one (z_ret (s_meth T.Queue_c (ok_Queue_push_range T) (s_var (i := 1) rfl (.inl rfl)) (a_cons (s_var (i := 2) rfl (.inl rfl)) (a_cons (s_var (i := 3) rfl (.inl rfl)) a_nil)))))
 z_nil)
 (z_cons (z_if (b_cmp o_eqS (s_var (i := 0) rfl (.inl rfl)) s_str)
 (z_one (z_ret (s_meth T.Queue_c (ok_Queue_advance T) (s_var (i := 1) rfl (.inl rfl)) (a_cons (s_var (i := 2) rfl (.inl rfl)) a_nil))))
 z_nil)
 (z_cons (z_if (b_cmp o_eqS (s_var (i := 0) rfl (.inl rfl)) s_str)
 (z_one (z_ret (s_meth T.Queue_c (ok_Queue_forecast T) (s_var (i := 1) rfl (.inl rfl)) (a_cons (s_var (i := 2) rfl (.inl rfl)) a_nil))))
 z_nil)
 (z_cons (z_if (b_cmp o_eqS (s_var (i := 0) rfl (.inl rfl)) s_str)
 (z_one (z_ret (s_meth T.Queue_c (ok_Queue_arrived T) (s_var (i := 1) rfl (.inl rfl)) (a_cons (s_var (i := 2) rfl (.inl rfl)) a_nil))))
 z_nil)
 (z_cons (z_if (b_cmp o_eqS (s_var (i := 0) rfl (.inl rfl)) s_str)
 (z_one (z_ret (s_meth T.Queue_c (ok_Queue_drop_of T) (s_var (i := 1) rfl (.inl rfl)) (a_cons (s_var (i := 2) rfl (.inl rfl)) a_nil))))
 z_nil)
 (z_one (z_ret (s_makeK T.Queue_k (kw_Queue___init___2_start T) (a_cons (s_var (i := 2) rfl (.inl rfl)) a_nil) (k_cons (s_var (i := 3) rfl (.inl rfl)) k_nil))))))))))
def t__law_told (T : All K mg) : RS :=
 zCons (zTryM K
 [(T.OutOfOrder, some 4, fun ea ec ed => zRet (rLst (aCons (rC (.str "order")) (aCons (rXf K ea ec ed "version" (rVar 4)) (aCons (rXf K ea ec ed "bound" (rVar 4)) aNil))))),
 (T.SamplingError, some 4, fun ea ec ed => zCons (zSet 5 (rLst (aCons (rB (cIsE2 K ea ec ed) (aCons (rVar 4) (aCons (rC (.ref T.InvalidCapacity)) aNil))) (aCons (rB (cIsE2 K ea ec ed) (aCons (rVar 4) (aCons (rC (.ref T.InvalidNumber)) aNil))) (aCons (rB (cIsE2 K ea ec ed) (aCons (rVar 4) (aCons (rC (.ref T.InvalidVersion)) aNil))) aNil)))))
 (zCons (zIf (tCmp oNeI (rBm K "list" (mCntB K) (rVar 5) (aCons (rC (.bl true)) aNil)) (rC (.int 1)))
 (zRet (rLst (aCons (rC (.str "another")) aNil)))
 (zNil))
 (zRet (rLst (aCons (rBin (oIxL K) (rLst (aCons (rC (.str "size")) (aCons (rC (.str "amount")) (aCons (rC (.str "number")) aNil)))) (rBm K "list" (mIdxB K) (rVar 5) (aCons (rC (.bl true)) aNil))) aNil)))))]
 (zExpr (rCall (sp__law_called T) [] (aCons (rVar 0) (aCons (rVar 1) (aCons (rVar 2) (aCons (rVar 3) aNil)))))))
 (zRet (rLst (aCons (rC (.str "done")) aNil)))
@[irreducible] def sp__law_told (T : All K mg) : Sp := rFn 4 ["_law_way", "_law_queue_here", "_law_one", "_law_other", "e", "_law_kinds"] (t__law_told T)
theorem ok__law_told (T : All K mg) : Cal P w K mg base "_law_told" 11 ["_law_way", "_law_queue_here", "_law_one", "_law_other"] [] (sp__law_told T) := by
 delta sp__law_told; exact T._law_told.rcal sc__law_told fun cd A outer s H1 E1 =>
 (z_cons (z_tryM (.as sc__law_told.nd (i := 4) rfl T.OutOfOrder_g ⟨fun ea oe ec ed pn hz hf => (z_one (z_ret (s_lst (a_cons s_str (a_cons (s_xf hz hf (s_var (i := 4) rfl (.inl rfl))) (a_cons (s_xf hz hf (s_var (i := 4) rfl (.inl rfl))) a_nil))))))⟩
 (.as sc__law_told.nd (i := 4) rfl T.SamplingError_g ⟨fun ea oe ec ed pn hz hf => (z_cons (z_set sc__law_told.nd rfl (s_lst (a_cons (s_bi (c_isE2 hz hf) T.n_isinstance PyProof.Rows.boot_isinstance (a_cons (s_var (i := 4) rfl (.inl rfl)) (a_cons (s_glob T.InvalidCapacity_g rfl) a_nil))) (a_cons (s_bi (c_isE2 hz hf) T.n_isinstance PyProof.Rows.boot_isinstance (a_cons (s_var (i := 4) rfl (.inl rfl)) (a_cons (s_glob T.InvalidNumber_g rfl) a_nil))) (a_cons (s_bi (c_isE2 hz hf) T.n_isinstance PyProof.Rows.boot_isinstance (a_cons (s_var (i := 4) rfl (.inl rfl)) (a_cons (s_glob T.InvalidVersion_g rfl) a_nil))) a_nil)))))
 (z_cons (z_if (b_cmp o_neI (s_bm PySem.F.plainAttrs_list PySem.F.slot_list_count PySem.F.type_list_count m_cntB (s_var (i := 5) rfl (.inl rfl)) (a_cons s_bl a_nil)) s_int)
 (z_one (z_ret (s_lst (a_cons s_str a_nil))))
 z_nil)
 (z_one (z_ret (s_lst (a_cons (s_ix x_lst (s_lst (a_cons s_str (a_cons s_str (a_cons s_str a_nil)))) (s_bm PySem.F.plainAttrs_list PySem.F.slot_list_index PySem.F.type_list_index m_idxB (s_var (i := 5) rfl (.inl rfl)) (a_cons s_bl a_nil))) a_nil))))))⟩
 .nil)) (fun pn xe => (z_one (z_expr (s_call (ok__law_called T) (a_cons (s_var (i := 0) rfl (.inl rfl)) (a_cons (s_var (i := 1) rfl (.inl rfl)) (a_cons (s_var (i := 2) rfl (.inl rfl)) (a_cons (s_var (i := 3) rfl (.inl rfl)) a_nil)))))))))
 (z_one (z_ret (s_lst (a_cons s_str a_nil)))))
/-- _law_rows.append(('range', _law_low + 1, _law_low, ['number'])) -/
def k1__law_refused_right (T : All K mg) : RS :=
 zExpr (rAppV 7 (rTup (aCons (rC (.str "range")) (aCons (rBin oAdd (rVar 6) (rC (.int 1))) (aCons (rVar 6) (aCons (rLst (aCons (rC (.str "number")) aNil)) aNil))))))
/-- _law_rows.append(('advance', _law_low, 0, ['order', _law_low, _law_mark])) -/
def k2__law_refused_right (T : All K mg) : RS :=
 zExpr (rAppV 7 (rTup (aCons (rC (.str "advance")) (aCons (rVar 6) (aCons (rC (.int 0)) (aCons (rLst (aCons (rC (.str "order")) (aCons (rVar 6) (aCons (rVar 8) aNil)))) aNil))))))
/-- return [_law_told(_law_way, _law_queue_here, _law_one, _law_other) for _law_way, _law_one, _law_other, _law_due in _law_rows] == [_law_row[3] for _law -/
def k3__law_refused_right (T : All K mg) : RS :=
 zRet (rBin (oEqD K) (rLc (iL K (rVar 7)) (gTup K 4 (gCons (gName 9) (gCons (gName 10) (gCons (gName 11) (gCons (gName 12) gNil))))) tY (rCall (sp__law_told T) [] (aCons (rVar 9) (aCons (rVar 1) (aCons (rVar 10) (aCons (rVar 11) aNil))))) [9, 10, 11, 12]) (rLc (iL K (rVar 7)) (gName 13) tY (rBin (oIxT K) (rVar 13) (rC (.int 3))) [13]))
/-- if _law_mark >= 0: -/
def k4__law_refused_right (T : All K mg) : RS :=
 zCons (zIf (tCmp oGe (rVar 8) (rC (.int 0)))
 (zCons (zSet 6 (rB cMax (aCons (rC (.int 0)) (aCons (rBin oSub (rVar 8) (rCall (sp__law_digit T) [] (aCons (rVar 0) (aCons (rC (.int 3)) aNil)))) aNil))))
 (k2__law_refused_right T))
 (zNil))
 (k3__law_refused_right T)
/-- _law_mark = _law_queue_here.passed() -/
def k5__law_refused_right (T : All K mg) : RS :=
 zCons (zSet 8 (rMeth T.Queue "passed" (sp_Queue_passed T) [] (rVar 1) aNil))
 (k4__law_refused_right T)
/-- if _law_bound >= 0: -/
def k6__law_refused_right (T : All K mg) : RS :=
 zCons (zIf (tCmp oGe (rVar 3) (rC (.int 0)))
 (zCons (zSet 7 (rBin oCat (rVar 7) (rLst (aCons (rTup (aCons (rC (.str "push")) (aCons (rVar 6) (aCons (rC (.int 0)) (aCons (rLst (aCons (rC (.str "order")) (aCons (rVar 6) (aCons (rVar 3) aNil)))) aNil))))) (aCons (rTup (aCons (rC (.str "range")) (aCons (rVar 6) (aCons (rBin oAdd (rVar 5) (rC (.int 5))) (aCons (rLst (aCons (rC (.str "order")) (aCons (rVar 6) (aCons (rVar 3) aNil)))) aNil))))) aNil)))))
 (k1__law_refused_right T))
 (zNil))
 (k5__law_refused_right T)
/-- _law_rows = _law_rows + [('new', _law_pick(_law_pot_here, [0, 1, 10, 11, 10 ** 30]), _law_bad_here, ['size']), ('new', 2, _law_bad_here, ['number'])] -/
def k7__law_refused_right (T : All K mg) : RS :=
 zCons (zSet 7 (rBin oCat (rVar 7) (rLst (aCons (rTup (aCons (rC (.str "new")) (aCons (rCall (sp__law_pick T) [] (aCons (rVar 0) (aCons (rLst (aCons (rC (.int 0)) (aCons (rC (.int 1)) (aCons (rC (.int 10)) (aCons (rC (.int 11)) (aCons (rBin oPow (rC (.int 10)) (rC (.int 30))) aNil)))))) aNil))) (aCons (rVar 4) (aCons (rLst (aCons (rC (.str "size")) aNil)) aNil))))) (aCons (rTup (aCons (rC (.str "new")) (aCons (rC (.int 2)) (aCons (rVar 4) (aCons (rLst (aCons (rC (.str "number")) aNil)) aNil))))) aNil)))))
 (k6__law_refused_right T)
/-- _law_rows = _law_rows + [('drop', _law_bad_here, 0, ['number']), ('new', _law_bad_here, 0, ['size']), ('new', _law_bad_here, _law_bad_here, ['size'])] -/
def k8__law_refused_right (T : All K mg) : RS :=
 zCons (zSet 7 (rBin oCat (rVar 7) (rLst (aCons (rTup (aCons (rC (.str "drop")) (aCons (rVar 4) (aCons (rC (.int 0)) (aCons (rLst (aCons (rC (.str "number")) aNil)) aNil))))) (aCons (rTup (aCons (rC (.str "new")) (aCons (rVar 4) (aCons (rC (.int 0)) (aCons (rLst (aCons (rC (.str "size")) aNil)) aNil))))) (aCons (rTup (aCons (rC (.str "new")) (aCons (rVar 4) (aCons (rVar 4) (aCons (rLst (aCons (rC (.str "size")) aNil)) aNil))))) aNil))))))
 (k7__law_refused_right T)
/-- _law_rows = _law_rows + [('advance', _law_bad_here, 0, ['number']), ('forecast', _law_bad_here, 0, ['amount']), ('arrived', _law_bad_here, 0, ['number -/
def k9__law_refused_right (T : All K mg) : RS :=
 zCons (zSet 7 (rBin oCat (rVar 7) (rLst (aCons (rTup (aCons (rC (.str "advance")) (aCons (rVar 4) (aCons (rC (.int 0)) (aCons (rLst (aCons (rC (.str "number")) aNil)) aNil))))) (aCons (rTup (aCons (rC (.str "forecast")) (aCons (rVar 4) (aCons (rC (.int 0)) (aCons (rLst (aCons (rC (.str "amount")) aNil)) aNil))))) (aCons (rTup (aCons (rC (.str "arrived")) (aCons (rVar 4) (aCons (rC (.int 0)) (aCons (rLst (aCons (rC (.str "number")) aNil)) aNil))))) aNil))))))
 (k8__law_refused_right T)
/-- _law_rows = _law_rows + [('range', _law_bad_here, _law_bad_here, ['number']), ('range', _law_good + 1, _law_good, ['number'])] -/
def k10__law_refused_right (T : All K mg) : RS :=
 zCons (zSet 7 (rBin oCat (rVar 7) (rLst (aCons (rTup (aCons (rC (.str "range")) (aCons (rVar 4) (aCons (rVar 4) (aCons (rLst (aCons (rC (.str "number")) aNil)) aNil))))) (aCons (rTup (aCons (rC (.str "range")) (aCons (rBin oAdd (rVar 5) (rC (.int 1))) (aCons (rVar 5) (aCons (rLst (aCons (rC (.str "number")) aNil)) aNil))))) aNil)))))
 (k9__law_refused_right T)
/-- _law_rows = [('push', _law_bad_here, 0, ['number']), ('range', _law_bad_here, _law_good, ['number']), ('range', _law_good, _law_bad_here, ['number'])] -/
def k11__law_refused_right (T : All K mg) : RS :=
 zCons (zSet 7 (rLst (aCons (rTup (aCons (rC (.str "push")) (aCons (rVar 4) (aCons (rC (.int 0)) (aCons (rLst (aCons (rC (.str "number")) aNil)) aNil))))) (aCons (rTup (aCons (rC (.str "range")) (aCons (rVar 4) (aCons (rVar 5) (aCons (rLst (aCons (rC (.str "number")) aNil)) aNil))))) (aCons (rTup (aCons (rC (.str "range")) (aCons (rVar 5) (aCons (rVar 4) (aCons (rLst (aCons (rC (.str "number")) aNil)) aNil))))) aNil)))))
 (k10__law_refused_right T)
/-- _law_low = max(0, _law_bound - _law_digit(_law_pot_here, 3)) -/
def k12__law_refused_right (T : All K mg) : RS :=
 zCons (zSet 6 (rB cMax (aCons (rC (.int 0)) (aCons (rBin oSub (rVar 3) (rCall (sp__law_digit T) [] (aCons (rVar 0) (aCons (rC (.int 3)) aNil)))) aNil))))
 (k11__law_refused_right T)
/-- _law_bad_here, _law_good = (_law_bad(_law_pot_here), _law_bound + 1) -/
def k13__law_refused_right (T : All K mg) : RS :=
 zCons (zPar 4 5 (aCons (rCall (sp__law_bad T) [] (aCons (rVar 0) aNil)) (aCons (rBin oAdd (rVar 3) (rC (.int 1))) aNil)))
 (k12__law_refused_right T)
/-- _law_bound = _law_queue_here.start() - 1 if _law_newest is None else _law_newest -/
def k14__law_refused_right (T : All K mg) : RS :=
 zCons (zSet 3 (rIf (tCmp oIs (rVar 2) (rC .non)) (rBin oSub (rMeth T.Queue "start" (sp_Queue_start T) [] (rVar 1) aNil) (rC (.int 1))) (rVar 2)))
 (k13__law_refused_right T)
def t__law_refused_right (T : All K mg) : RS :=
 zCons (zSet 2 (rMeth T.Queue "newest" (sp_Queue_newest T) [] (rVar 1) aNil))
 (k14__law_refused_right T)
@[irreducible] def sp__law_refused_right (T : All K mg) : Sp := rFn 2 ["_law_pot_here", "_law_queue_here", "_law_newest", "_law_bound", "_law_bad_here", "_law_good", "_law_low", "_law_rows", "_law_mark", "_law_way", "_law_one", "_law_other", "_law_due", "_law_row"] (t__law_refused_right T)
theorem ok__law_refused_right (T : All K mg) : Cal P w K mg base "_law_refused_right" 12 ["_law_pot_here", "_law_queue_here"] [] (sp__law_refused_right T) := by
 delta sp__law_refused_right; exact T._law_refused_right.rcal sc__law_refused_right fun cd A outer s H1 E1 =>
 (z_cons (z_set sc__law_refused_right.nd rfl (s_meth0 T.Queue_c (ok_Queue_newest T) (s_var (i := 1) rfl (.inr (.inl rfl)))))
 (z_cons (z_set sc__law_refused_right.nd rfl (s_if (b_cmp o_is (s_var (i := 2) rfl (.inl rfl)) s_non) (s_bin o_sub (s_meth0 T.Queue_c (ok_Queue_start T) (s_var (i := 1) rfl (.inr (.inl rfl)))) s_int) (s_var (i := 2) rfl (.inl rfl))))
 (z_cons (z_par (i := 4) (l := 5) sc__law_refused_right.nd rfl rfl (a_cons (s_call (ok__law_bad T) (a_cons (s_var (i := 0) rfl (.inl rfl)) a_nil)) (a_cons (s_bin o_add (s_var (i := 3) rfl (.inl rfl)) s_int) a_nil)))
 (z_cons (z_set sc__law_refused_right.nd rfl (s_bi c_max T.n_max PyProof.Rows.boot_max (a_cons s_int (a_cons (s_bin o_sub (s_var (i := 3) rfl (.inl rfl)) (s_call (ok__law_digit T) (a_cons (s_var (i := 0) rfl (.inl rfl)) (a_cons s_int a_nil)))) a_nil))))
 (z_cons (z_set sc__law_refused_right.nd rfl (s_lst (a_cons (s_tup (a_cons s_str (a_cons (s_var (i := 4) rfl (.inl rfl)) (a_cons s_int (a_cons (s_lst (a_cons s_str a_nil)) a_nil))))) (a_cons (s_tup (a_cons s_str (a_cons (s_var (i := 4) rfl (.inl rfl)) (a_cons (s_var (i := 5) rfl (.inl rfl)) (a_cons (s_lst (a_cons s_str a_nil)) a_nil))))) (a_cons (s_tup (a_cons s_str (a_cons (s_var (i := 5) rfl (.inl rfl)) (a_cons (s_var (i := 4) rfl (.inl rfl)) (a_cons (s_lst (a_cons s_str a_nil)) a_nil))))) a_nil)))))
 (z_cons (z_set sc__law_refused_right.nd rfl (s_bin o_cat (s_var (i := 7) rfl (.inl rfl)) (s_lst (a_cons (s_tup (a_cons s_str (a_cons (s_var (i := 4) rfl (.inl rfl)) (a_cons (s_var (i := 4) rfl (.inl rfl)) (a_cons (s_lst (a_cons s_str a_nil)) a_nil))))) (a_cons (s_tup (a_cons s_str (a_cons (s_bin o_add (s_var (i := 5) rfl (.inl rfl)) s_int) (a_cons (s_var (i := 5) rfl (.inl rfl)) (a_cons (s_lst (a_cons s_str a_nil)) a_nil))))) a_nil)))))
 (z_cons (z_set sc__law_refused_right.nd rfl (s_bin o_cat (s_var (i := 7) rfl (.inl rfl)) (s_lst (a_cons (s_tup (a_cons s_str (a_cons (s_var (i := 4) rfl (.inl rfl)) (a_cons s_int (a_cons (s_lst (a_cons s_str a_nil)) a_nil))))) (a_cons (s_tup (a_cons s_str (a_cons (s_var (i := 4) rfl (.inl rfl)) (a_cons s_int (a_cons (s_lst (a_cons s_str a_nil)) a_nil))))) (a_cons (s_tup (a_cons s_str (a_cons (s_var (i := 4) rfl (.inl rfl)) (a_cons s_int (a_cons (s_lst (a_cons s_str a_nil)) a_nil))))) a_nil))))))
 (z_cons (z_set sc__law_refused_right.nd rfl (s_bin o_cat (s_var (i := 7) rfl (.inl rfl)) (s_lst (a_cons (s_tup (a_cons s_str (a_cons (s_var (i := 4) rfl (.inl rfl)) (a_cons s_int (a_cons (s_lst (a_cons s_str a_nil)) a_nil))))) (a_cons (s_tup (a_cons s_str (a_cons (s_var (i := 4) rfl (.inl rfl)) (a_cons s_int (a_cons (s_lst (a_cons s_str a_nil)) a_nil))))) (a_cons (s_tup (a_cons s_str (a_cons (s_var (i := 4) rfl (.inl rfl)) (a_cons (s_var (i := 4) rfl (.inl rfl)) (a_cons (s_lst (a_cons s_str a_nil)) a_nil))))) a_nil))))))
 (z_cons (z_set sc__law_refused_right.nd rfl (s_bin o_cat (s_var (i := 7) rfl (.inl rfl)) (s_lst (a_cons (s_tup (a_cons s_str (a_cons (s_call (ok__law_pick T) (a_cons (s_var (i := 0) rfl (.inl rfl)) (a_cons (s_lst (a_cons s_int (a_cons s_int (a_cons s_int (a_cons s_int (a_cons (s_bin o_pow s_int s_int) a_nil)))))) a_nil))) (a_cons (s_var (i := 4) rfl (.inl rfl)) (a_cons (s_lst (a_cons s_str a_nil)) a_nil))))) (a_cons (s_tup (a_cons s_str (a_cons s_int (a_cons (s_var (i := 4) rfl (.inl rfl)) (a_cons (s_lst (a_cons s_str a_nil)) a_nil))))) a_nil)))))
 (z_cons (z_if (b_cmp o_ge (s_var (i := 3) rfl (.inl rfl)) s_int)
 (z_cons (z_set sc__law_refused_right.nd rfl (s_bin o_cat (s_var (i := 7) rfl (.inl rfl)) (s_lst (a_cons (s_tup (a_cons s_str (a_cons (s_var (i := 6) rfl (.inl rfl)) (a_cons s_int (a_cons (s_lst (a_cons s_str (a_cons (s_var (i := 6) rfl (.inl rfl)) (a_cons (s_var (i := 3) rfl (.inl rfl)) a_nil)))) a_nil))))) (a_cons (s_tup (a_cons s_str (a_cons (s_var (i := 6) rfl (.inl rfl)) (a_cons (s_bin o_add (s_var (i := 5) rfl (.inl rfl)) s_int) (a_cons (s_lst (a_cons s_str (a_cons (s_var (i := 6) rfl (.inl rfl)) (a_cons (s_var (i := 3) rfl (.inl rfl)) a_nil)))) a_nil))))) a_nil)))))
 (z_one (z_expr (s_appV (i := 7) rfl (.inl rfl) (s_tup (a_cons s_str (a_cons (s_bin o_add (s_var (i := 6) rfl (.inl rfl)) s_int) (a_cons (s_var (i := 6) rfl (.inl rfl)) (a_cons (s_lst (a_cons s_str a_nil)) a_nil)))))))))
 z_nil)
 (z_cons (z_set sc__law_refused_right.nd rfl (s_meth0 T.Queue_c (ok_Queue_passed T) (s_var (i := 1) rfl (.inr (.inl rfl)))))
 (z_cons (z_if (b_cmp o_ge (s_var (i := 8) rfl (.inl rfl)) s_int)
 (z_cons (z_set sc__law_refused_right.nd rfl (s_bi c_max T.n_max PyProof.Rows.boot_max (a_cons s_int (a_cons (s_bin o_sub (s_var (i := 8) rfl (.inl rfl)) (s_call (ok__law_digit T) (a_cons (s_var (i := 0) rfl (.inl rfl)) (a_cons s_int a_nil)))) a_nil))))
 (z_one (z_expr (s_appV (i := 7) rfl (.inl rfl) (s_tup (a_cons s_str (a_cons (s_var (i := 6) rfl (.inl rfl)) (a_cons s_int (a_cons (s_lst (a_cons s_str (a_cons (s_var (i := 6) rfl (.inl rfl)) (a_cons (s_var (i := 8) rfl (.inl rfl)) a_nil)))) a_nil)))))))))
 z_nil)
 (z_one (z_ret (s_cmpr2 o_eqD (s_lc0 (own := [("_law_way", 9), ("_law_one", 10), ("_law_other", 11), ("_law_due", 12)]) (i_L (s_var (i := 7) rfl (.inl rfl))) sc__law_refused_right.nd (blk_fx (by decide +kernel)) (fun _ _ _ _ _ => (g_tup (gs_cons (g_name sc__law_refused_right.nd rfl) (gs_cons (g_name sc__law_refused_right.nd rfl) (gs_cons (g_name sc__law_refused_right.nd rfl) (gs_cons (g_name sc__law_refused_right.nd rfl) gs_nil)))))) (fun _ _ _ _ _ => (s_call (ok__law_told T) (a_cons (s_var (i := 9) (by rfl) (by walk_at "G:vis")) (a_cons (s_var (i := 1) (by rfl) (by walk_at "G:vis")) (a_cons (s_var (i := 10) (by rfl) (by walk_at "G:vis")) (a_cons (s_var (i := 11) (by rfl) (by walk_at "G:vis")) a_nil))))))) (s_lc0 (own := [("_law_row", 13)]) (i_L (s_var (i := 7) rfl (.inl rfl))) sc__law_refused_right.nd (blk_fx (by decide +kernel)) (fun _ _ _ _ _ => (g_name sc__law_refused_right.nd rfl)) (fun _ _ _ _ _ => (s_ix x_tup (s_var (i := 13) (by rfl) (by walk_at "G:vis")) s_int))))))))))))))))))
def t_Queue_copy (T : All K mg) : RS :=
 zCons (zSet 1 (rMakeN T.Queue (sp_Queue___init__ T) 2 1 (reo [0, 1, 2]) (aCons (rFld T.Queue "size" (rVar 0)) aNil) (aCons (rFld T.Queue "first" (rVar 0)) aNil)))
 (zCons (zAsg (rTup (aCons (rFld T.Queue "mark" (rVar 0)) (aCons (rFld T.Queue "latest" (rVar 0)) (aCons (rFld T.Queue "most_lag" (rVar 0)) aNil)))) (gTup K 3 (gCons (gFld T.Queue "mark" (rVar 1)) (gCons (gFld T.Queue "latest" (rVar 1)) (gCons (gFld T.Queue "most_lag" (rVar 1)) gNil)))))
 (zCons (zFld T.Queue "kept" (rVar 1) (rB (cListL K) (aCons (rFld T.Queue "kept" (rVar 0)) aNil)))
 (zCons (zFld T.Queue "calls" (rVar 1) (rB (cListL K) (aCons (rFld T.Queue "calls" (rVar 0)) aNil)))
 (zRet (rVar 1)))))
@[irreducible] def sp_Queue_copy (T : All K mg) : Sp := rFn 1 ["self", "found"] (t_Queue_copy T)
theorem fng_Queue_copy (T : All K mg) : FnG P w K mg base 6 T.Queue_copy.f T.Queue_copy.fd ["self"] (sp_Queue_copy T) := by
 delta sp_Queue_copy; exact T.Queue_copy.rfng sc_Queue_copy fun cd A outer s H1 E1 =>
 (z_cons (z_set sc_Queue_copy.nd rfl (s_makeK T.Queue_k (kw_Queue___init___2_start T) (a_cons (s_fld T.Queue_c T.Queue_n_size (s_var (i := 0) rfl (.inl rfl))) a_nil) (k_cons (s_fld T.Queue_c T.Queue_n_first (s_var (i := 0) rfl (.inl rfl))) k_nil)))
 (z_cons (z_asg (s_tup (a_cons (s_fld T.Queue_c T.Queue_n_mark (s_var (i := 0) rfl (.inl rfl))) (a_cons (s_fld T.Queue_c T.Queue_n_latest (s_var (i := 0) rfl (.inl rfl))) (a_cons (s_fld T.Queue_c T.Queue_n_most_lag (s_var (i := 0) rfl (.inl rfl))) a_nil)))) (g_tup (gs_cons (g_fld T.Queue_c T.Queue_n_mark (s_var (i := 1) rfl (.inl rfl))) (gs_cons (g_fld T.Queue_c T.Queue_n_latest (s_var (i := 1) rfl (.inl rfl))) (gs_cons (g_fld T.Queue_c T.Queue_n_most_lag (s_var (i := 1) rfl (.inl rfl))) gs_nil)))))
 (z_cons (z_fld T.Queue_c T.Queue_n_kept (s_var (i := 1) rfl (.inl rfl)) (s_bt c_listL T.n_list PyProof.Rows.boot_list (a_cons (s_fld T.Queue_c T.Queue_n_kept (s_var (i := 0) rfl (.inl rfl))) a_nil)))
 (z_cons (z_fld T.Queue_c T.Queue_n_calls (s_var (i := 1) rfl (.inl rfl)) (s_bt c_listL T.n_list PyProof.Rows.boot_list (a_cons (s_fld T.Queue_c T.Queue_n_calls (s_var (i := 0) rfl (.inl rfl))) a_nil)))
 (z_one (z_ret (s_var (i := 1) rfl (.inl rfl))))))))
theorem ok_Queue_copy (T : All K mg) : CalM P w K mg base T.Queue "copy" 6 ["self"] [] (sp_Queue_copy T) := ⟨_, _, [], fng_Queue_copy T, T.Queue_copy.mt, T.Queue_copy.b, .nil⟩
/-- return _law_is_alone and _law_state(_law_queue_here) == _law_state_here -/
def k1__law_copies_right (T : All K mg) : RS :=
 zRet (rAnd (rVar 6) (rBin (oEqD K) (rCall (sp__law_state T) [] (aCons (rVar 0) aNil)) (rVar 1)))
/-- _law_is_alone = not _law_one == _law_queue_here and (not _law_other == _law_queue_here) and (not _law_one == _law_other) -/
def k2__law_copies_right (T : All K mg) : RS :=
 zCons (zSet 6 (rAnd (rNot (rBin (oEqO T.Queue T.Queue (sp_Queue___eq__ T)) (rVar 2) (rVar 0))) (rAnd (rNot (rBin (oEqO T.Queue T.Queue (sp_Queue___eq__ T)) (rVar 3) (rVar 0))) (rNot (rBin (oEqO T.Queue T.Queue (sp_Queue___eq__ T)) (rVar 2) (rVar 3))))))
 (k1__law_copies_right T)
/-- _law_other.push_range(_law_first, _law_first + 30) -/
def k3__law_copies_right (T : All K mg) : RS :=
 zCons (zExpr (rMeth T.Queue "push_range" (sp_Queue_push_range T) [] (rVar 3) (aCons (rVar 5) (aCons (rBin oAdd (rVar 5) (rC (.int 30))) aNil))))
 (k2__law_copies_right T)
/-- _law_first = _law_other.start() if _law_newest is None else _law_newest + 1 -/
def k4__law_copies_right (T : All K mg) : RS :=
 zCons (zSet 5 (rIf (tCmp oIs (rVar 4) (rC .non)) (rMeth T.Queue "start" (sp_Queue_start T) [] (rVar 3) aNil) (rBin oAdd (rVar 4) (rC (.int 1)))))
 (k3__law_copies_right T)
/-- _law_newest = _law_other.newest() -/
def k5__law_copies_right (T : All K mg) : RS :=
 zCons (zSet 4 (rMeth T.Queue "newest" (sp_Queue_newest T) [] (rVar 3) aNil))
 (k4__law_copies_right T)
/-- _law_one.advance(_law_one.passed() + 3) -/
def k6__law_copies_right (T : All K mg) : RS :=
 zCons (zExpr (rMeth T.Queue "advance" (sp_Queue_advance T) [] (rVar 2) (aCons (rBin oAdd (rMeth T.Queue "passed" (sp_Queue_passed T) [] (rVar 2) aNil) (rC (.int 3))) aNil)))
 (k5__law_copies_right T)
/-- if [_law_state(_law_one), _law_state(_law_other)] != [_law_state_here, _law_state_here]: -/
def k7__law_copies_right (T : All K mg) : RS :=
 zCons (zIf (tCmp (oNeD K) (rLst (aCons (rCall (sp__law_state T) [] (aCons (rVar 2) aNil)) (aCons (rCall (sp__law_state T) [] (aCons (rVar 3) aNil)) aNil))) (rLst (aCons (rVar 1) (aCons (rVar 1) aNil))))
 (zRet (rC (.bl false)))
 (zNil))
 (k6__law_copies_right T)
/-- if not _law_one == _law_queue_here or not _law_other == _law_one: -/
def k8__law_copies_right (T : All K mg) : RS :=
 zCons (zIf (tOr (tNot (tCmp (oEqO T.Queue T.Queue (sp_Queue___eq__ T)) (rVar 2) (rVar 0))) (tNot (tCmp (oEqO T.Queue T.Queue (sp_Queue___eq__ T)) (rVar 3) (rVar 2))))
 (zRet (rC (.bl false)))
 (zNil))
 (k7__law_copies_right T)
/-- _law_other = _law_one.copy() -/
def k9__law_copies_right (T : All K mg) : RS :=
 zCons (zSet 3 (rMeth T.Queue "copy" (sp_Queue_copy T) [] (rVar 2) aNil))
 (k8__law_copies_right T)
/-- _law_one = _law_queue_here.copy() -/
def k10__law_copies_right (T : All K mg) : RS :=
 zCons (zSet 2 (rMeth T.Queue "copy" (sp_Queue_copy T) [] (rVar 0) aNil))
 (k9__law_copies_right T)
def t__law_copies_right (T : All K mg) : RS :=
 zCons (zSet 1 (rCall (sp__law_state T) [] (aCons (rVar 0) aNil)))
 (k10__law_copies_right T)
@[irreducible] def sp__law_copies_right (T : All K mg) : Sp := rFn 1 ["_law_queue_here", "_law_state_here", "_law_one", "_law_other", "_law_newest", "_law_first", "_law_is_alone"] (t__law_copies_right T)
theorem ok__law_copies_right (T : All K mg) : Cal P w K mg base "_law_copies_right" 11 ["_law_queue_here"] [] (sp__law_copies_right T) := by
 delta sp__law_copies_right; exact T._law_copies_right.rcal sc__law_copies_right fun cd A outer s H1 E1 =>
 (z_cons (z_set sc__law_copies_right.nd rfl (s_call (ok__law_state T) (a_cons (s_var (i := 0) rfl (.inl rfl)) a_nil)))
 (z_cons (z_set sc__law_copies_right.nd rfl (s_meth0 T.Queue_c (ok_Queue_copy T) (s_var (i := 0) rfl (.inl rfl))))
 (z_cons (z_set sc__law_copies_right.nd rfl (s_meth0 T.Queue_c (ok_Queue_copy T) (s_var (i := 2) rfl (.inl rfl))))
 (z_cons (z_if (b_ww (w_or (b_not (b_cmpc (o_eqO (ok_Queue___eq__ T)) (s_var (i := 2) rfl (.inl rfl)) (s_var (i := 0) rfl (.inl rfl)))) (w_or1 (b_not (b_cmpc (o_eqO (ok_Queue___eq__ T)) (s_var (i := 3) rfl (.inl rfl)) (s_var (i := 2) rfl (.inl rfl)))))))
 (z_one (z_ret s_bl))
 z_nil)
 (z_cons (z_if (b_cmpr2 o_neD (s_lst (a_cons (s_call (ok__law_state T) (a_cons (s_var (i := 2) rfl (.inl rfl)) a_nil)) (a_cons (s_call (ok__law_state T) (a_cons (s_var (i := 3) rfl (.inl rfl)) a_nil)) a_nil))) (s_lst (a_cons (s_var (i := 1) rfl (.inl rfl)) (a_cons (s_var (i := 1) rfl (.inl rfl)) a_nil))))
 (z_one (z_ret s_bl))
 z_nil)
 (z_cons (z_expr (s_meth T.Queue_c (ok_Queue_advance T) (s_var (i := 2) rfl (.inl rfl)) (a_cons (s_bin o_add (s_meth0 T.Queue_c (ok_Queue_passed T) (s_var (i := 2) rfl (.inl rfl))) s_int) a_nil)))
 (z_cons (z_set sc__law_copies_right.nd rfl (s_meth0 T.Queue_c (ok_Queue_newest T) (s_var (i := 3) rfl (.inl rfl))))
 (z_cons (z_set sc__law_copies_right.nd rfl (s_if (b_cmp o_is (s_var (i := 4) rfl (.inl rfl)) s_non) (s_meth0 T.Queue_c (ok_Queue_start T) (s_var (i := 3) rfl (.inl rfl))) (s_bin o_add (s_var (i := 4) rfl (.inl rfl)) s_int)))
 (z_cons (z_expr (s_meth T.Queue_c (ok_Queue_push_range T) (s_var (i := 3) rfl (.inl rfl)) (a_cons (s_var (i := 5) rfl (.inl rfl)) (a_cons (s_bin o_add (s_var (i := 5) rfl (.inl rfl)) s_int) a_nil))))
 (z_cons (z_set sc__law_copies_right.nd rfl (s_and (s_not (s_cmpc (o_eqO (ok_Queue___eq__ T)) (s_var (i := 2) rfl (.inl rfl)) (s_var (i := 0) rfl (.inl rfl)))) (s_and (s_not (s_cmpc (o_eqO (ok_Queue___eq__ T)) (s_var (i := 3) rfl (.inl rfl)) (s_var (i := 0) rfl (.inl rfl)))) (s_one (s_not (s_cmpc (o_eqO (ok_Queue___eq__ T)) (s_var (i := 2) rfl (.inl rfl)) (s_var (i := 3) rfl (.inl rfl))))))))
 (z_one (z_ret (s_and (s_var (i := 6) rfl (.inl rfl)) (s_one (s_cmpr2 o_eqD (s_call (ok__law_state T) (a_cons (s_var (i := 0) rfl (.inl rfl)) a_nil)) (s_var (i := 1) rfl (.inl rfl)))))))))))))))))
def t__law_others (T : All K mg) : RS :=
 zCons (zSet 1 (rLst (aCons (rMakeN T.Queue (sp_Queue___init__ T) 2 1 (reo [0, 1, 2]) (aCons (rBin oAdd (rC (.int 2)) (rBin oMod (rBin oSub (rMeth T.Queue "capacity" (sp_Queue_capacity T) [] (rVar 0) aNil) (rC (.int 1))) (rC (.int 8)))) aNil) (aCons (rMeth T.Queue "start" (sp_Queue_start T) [] (rVar 0) aNil) aNil)) aNil)))
 (zCons (zExpr (rAppV 1 (rMakeN T.Queue (sp_Queue___init__ T) 2 1 (reo [0, 1, 2]) (aCons (rMeth T.Queue "capacity" (sp_Queue_capacity T) [] (rVar 0) aNil) aNil) (aCons (rBin oAdd (rMeth T.Queue "start" (sp_Queue_start T) [] (rVar 0) aNil) (rC (.int 1))) aNil))))
 (zCons (zPar 2 3 (aCons (rMeth T.Queue "copy" (sp_Queue_copy T) [] (rVar 0) aNil) (aCons (rMeth T.Queue "copy" (sp_Queue_copy T) [] (rVar 0) aNil) aNil)))
 (zCons (zSet 4 (rMeth T.Queue "newest" (sp_Queue_newest T) [] (rVar 0) aNil))
 (zCons (zExpr (rMeth T.Queue "push" (sp_Queue_push T) [] (rVar 2) (aCons (rIf (tCmp oIs (rVar 4) (rC .non)) (rMeth T.Queue "start" (sp_Queue_start T) [] (rVar 0) aNil) (rBin oAdd (rVar 4) (rC (.int 1)))) aNil)))
 (zCons (zExpr (rMeth T.Queue "advance" (sp_Queue_advance T) [] (rVar 3) (aCons (rBin oAdd (rMeth T.Queue "passed" (sp_Queue_passed T) [] (rVar 0) aNil) (rC (.int 1))) aNil)))
 (zRet (rBin oCat (rVar 1) (rLst (aCons (rVar 2) (aCons (rVar 3) aNil))))))))))
@[irreducible] def sp__law_others (T : All K mg) : Sp := rFn 1 ["_law_queue_here", "_law_found", "_law_pushed", "_law_gone", "_law_newest"] (t__law_others T)
theorem ok__law_others (T : All K mg) : Cal P w K mg base "_law_others" 10 ["_law_queue_here"] [] (sp__law_others T) := by
 delta sp__law_others; exact T._law_others.rcal sc__law_others fun cd A outer s H1 E1 =>
 (z_cons (z_set sc__law_others.nd rfl (s_lst (a_cons (s_makeK T.Queue_k (kw_Queue___init___2_start T) (a_cons (s_bin o_add s_int (s_bin o_mod (s_bin o_sub (s_meth0 T.Queue_c (ok_Queue_capacity T) (s_var (i := 0) rfl (.inl rfl))) s_int) s_int)) a_nil) (k_cons (s_meth0 T.Queue_c (ok_Queue_start T) (s_var (i := 0) rfl (.inl rfl))) k_nil)) a_nil)))
 (z_cons (z_expr (s_appV (i := 1) rfl (.inl rfl) (s_makeK T.Queue_k (kw_Queue___init___2_start T) (a_cons (s_meth0 T.Queue_c (ok_Queue_capacity T) (s_var (i := 0) rfl (.inl rfl))) a_nil) (k_cons (s_bin o_add (s_meth0 T.Queue_c (ok_Queue_start T) (s_var (i := 0) rfl (.inl rfl))) s_int) k_nil))))
 (z_cons (z_par (i := 2) (l := 3) sc__law_others.nd rfl rfl (a_cons (s_meth0 T.Queue_c (ok_Queue_copy T) (s_var (i := 0) rfl (.inl rfl))) (a_cons (s_meth0 T.Queue_c (ok_Queue_copy T) (s_var (i := 0) rfl (.inl rfl))) a_nil)))
 (z_cons (z_set sc__law_others.nd rfl (s_meth0 T.Queue_c (ok_Queue_newest T) (s_var (i := 0) rfl (.inl rfl))))
 (z_cons (z_expr (s_meth T.Queue_c (ok_Queue_push T) (s_var (i := 2) rfl (.inl rfl)) (a_cons (s_if (b_cmp o_is (s_var (i := 4) rfl (.inl rfl)) s_non) (s_meth0 T.Queue_c (ok_Queue_start T) (s_var (i := 0) rfl (.inl rfl))) (s_bin o_add (s_var (i := 4) rfl (.inl rfl)) s_int)) a_nil)))
 (z_cons (z_expr (s_meth T.Queue_c (ok_Queue_advance T) (s_var (i := 3) rfl (.inl rfl)) (a_cons (s_bin o_add (s_meth0 T.Queue_c (ok_Queue_passed T) (s_var (i := 0) rfl (.inl rfl))) s_int) a_nil)))
 (z_one (z_ret (s_bin o_cat (s_var (i := 1) rfl (.inl rfl)) (s_lst (a_cons (s_var (i := 2) rfl (.inl rfl)) (a_cons (s_var (i := 3) rfl (.inl rfl)) a_nil))))))))))))
/-- _law_call(_law_pot_here, _law_queue_here) -/
def k1__law_right (T : All K mg) : RS :=
 zExpr (rCall (sp__law_call T) [] (aCons (rVar 0) (aCons (rVar 2) aNil)))
/-- _law_call(_law_kept, _law_twin) -/
def k2__law_right (T : All K mg) : RS :=
 zExpr (rCall (sp__law_call T) [] (aCons (rVar 1) (aCons (rVar 4) aNil)))
/-- return _law_goes_on(_law_queue_here, _law_twin) -/
def k3__law_right (T : All K mg) : RS :=
 zRet (rCall (sp__law_goes_on T) [] (aCons (rVar 2) (aCons (rVar 4) aNil)))
/-- if any([_law_queue_here == _law_one for _law_one in _law_some]) or not _law_copies_right(_law_queue_here) or _law_state(_law_queue_here) != _law_state -/
def k4__law_right (T : All K mg) : RS :=
 zCons (zIf (tOr (tV (rB (cAny K) (aCons (rLc (iL K (rVar 7)) (gName 6) tY (rBin (oEqAny K T.Queue (sp_Queue___eq__ T)) (rVar 2) (rVar 6)) [6]) aNil))) (tOr (tNot (tV (rCall (sp__law_copies_right T) [] (aCons (rVar 2) aNil)))) (tCmp (oNeD K) (rCall (sp__law_state T) [] (aCons (rVar 2) aNil)) (rVar 5))))
 (zRet (rC (.bl false)))
 (zNil))
 (k3__law_right T)
/-- _law_some = [None, 0, '', [], (), {}, _law_queue_here.waiting(), repr(_law_queue_here), NotRemembered(1)] -/
def k5__law_right (T : All K mg) : RS :=
 zCons (zSet 7 (rLst (aCons (rC .non) (aCons (rC (.int 0)) (aCons (rC (.str "")) (aCons (rLst (aNil)) (aCons (rTup (aNil)) (aCons (rDct0) (aCons (rMeth T.Queue "waiting" (sp_Queue_waiting T) [] (rVar 2) aNil) (aCons (rReprO T.Queue (sp_Queue___repr__ T) (rVar 2)) (aCons (rMkX T.NotRemembered (sp_NotRemembered___init__ T) [] (aCons (rC (.int 1)) aNil)) aNil)))))))))))
 (k4__law_right T)
/-- if not all([_law_queue_here != _law_one and (not _law_queue_here == _law_one) for _law_one in _law_others(_law_queue_here)]): -/
def k6__law_right (T : All K mg) : RS :=
 zCons (zIf (tNot (tV (rB (cAll K) (aCons (rLc (iL K (rCall (sp__law_others T) [] (aCons (rVar 2) aNil))) (gName 6) tY (rAnd (rBin (oNeO T.Queue (sp_Queue___eq__ T)) (rVar 2) (rVar 6)) (rNot (rBin (oEqO T.Queue T.Queue (sp_Queue___eq__ T)) (rVar 2) (rVar 6)))) [6]) aNil))))
 (zRet (rC (.bl false)))
 (zNil))
 (k5__law_right T)
/-- if len(_law_queue_here) != len(_law_queue_here.waiting()) or not _law_refused_right(_law_pot_here, _law_queue_here) or _law_state(_law_queue_here) !=  -/
def k7__law_right (T : All K mg) : RS :=
 zCons (zIf (tOr (tCmp oNeI (rLenO T.Queue (sp_Queue___len__ T) (rVar 2)) (rB (cLenL K) (aCons (rMeth T.Queue "waiting" (sp_Queue_waiting T) [] (rVar 2) aNil) aNil))) (tOr (tNot (tV (rCall (sp__law_refused_right T) [] (aCons (rVar 0) (aCons (rVar 2) aNil))))) (tCmp (oNeD K) (rCall (sp__law_state T) [] (aCons (rVar 2) aNil)) (rVar 5))))
 (zRet (rC (.bl false)))
 (zNil))
 (k6__law_right T)
/-- if not _law_queue_here == _law_twin or _law_queue_here != _law_twin or _law_state_here != _law_state(_law_twin) or (repr(_law_queue_here) != _law_writ -/
def k8__law_right (T : All K mg) : RS :=
 zCons (zIf (tOr (tNot (tCmp (oEqO T.Queue T.Queue (sp_Queue___eq__ T)) (rVar 2) (rVar 4))) (tOr (tCmp (oNeO T.Queue (sp_Queue___eq__ T)) (rVar 2) (rVar 4)) (tOr (tCmp (oNeD K) (rVar 5) (rCall (sp__law_state T) [] (aCons (rVar 4) aNil))) (tCmp oNeS (rReprO T.Queue (sp_Queue___repr__ T) (rVar 2)) (rCall (sp__law_written T) [] (aCons (rVar 2) aNil))))))
 (zRet (rC (.bl false)))
 (zNil))
 (k7__law_right T)
/-- _law_state_here = _law_state(_law_queue_here) -/
def k9__law_right (T : All K mg) : RS :=
 zCons (zSet 5 (rCall (sp__law_state T) [] (aCons (rVar 2) aNil)))
 (k8__law_right T)
/-- for _law_turn in range(_law_digit(_law_kept, 12)): -/
def k10__law_right (T : All K mg) : RS :=
 zCons (zFor (iR1 (aCons (rCall (sp__law_digit T) [] (aCons (rVar 1) (aCons (rC (.int 12)) aNil))) aNil)) (gName 3)
 (k2__law_right T))
 (k9__law_right T)
/-- _law_twin = _law_queue(_law_kept) -/
def k11__law_right (T : All K mg) : RS :=
 zCons (zSet 4 (rCall (sp__law_queue T) [] (aCons (rVar 1) aNil)))
 (k10__law_right T)
/-- for _law_turn in range(_law_digit(_law_pot_here, 12)): -/
def k12__law_right (T : All K mg) : RS :=
 zCons (zFor (iR1 (aCons (rCall (sp__law_digit T) [] (aCons (rVar 0) (aCons (rC (.int 12)) aNil))) aNil)) (gName 3)
 (k1__law_right T))
 (k11__law_right T)
/-- _law_queue_here = _law_queue(_law_pot_here) -/
def k13__law_right (T : All K mg) : RS :=
 zCons (zSet 2 (rCall (sp__law_queue T) [] (aCons (rVar 0) aNil)))
 (k12__law_right T)
def t__law_right (T : All K mg) : RS :=
 zCons (zSet 1 (rLst (aCons (rBin (oIxL K) (rVar 0) (rC (.int 0))) (aCons (rBin (oIxL K) (rVar 0) (rC (.int 1))) aNil))))
 (k13__law_right T)
@[irreducible] def sp__law_right (T : All K mg) : Sp := rFn 1 ["_law_pot_here", "_law_kept", "_law_queue_here", "_law_turn", "_law_twin", "_law_state_here", "_law_one", "_law_some"] (t__law_right T)
theorem ok__law_right (T : All K mg) : Cal P w K mg base "_law_right" 13 ["_law_pot_here"] [] (sp__law_right T) := by
 delta sp__law_right; exact T._law_right.rcal sc__law_right fun cd A outer s H1 E1 =>
 (z_cons (z_set sc__law_right.nd rfl (s_lst (a_cons (s_ix x_lst (s_var (i := 0) rfl (.inl rfl)) s_int) (a_cons (s_ix x_lst (s_var (i := 0) rfl (.inl rfl)) s_int) a_nil))))
 (z_cons (z_set sc__law_right.nd rfl (s_call (ok__law_queue T) (a_cons (s_var (i := 0) rfl (.inl rfl)) a_nil)))
 (z_cons (z_for (i_R1 T.n_range (a_cons (s_call (ok__law_digit T) (a_cons (s_var (i := 0) rfl (.inl rfl)) (a_cons s_int a_nil))) a_nil)) (g_name sc__law_right.nd rfl)
 (z_one (z_expr (s_call (ok__law_call T) (a_cons (s_var (i := 0) rfl (.inl rfl)) (a_cons (s_var (i := 2) rfl (.inr (.inl rfl))) a_nil))))))
 (z_cons (z_set sc__law_right.nd rfl (s_call (ok__law_queue T) (a_cons (s_var (i := 1) rfl (.inl rfl)) a_nil)))
 (z_cons (z_for (i_R1 T.n_range (a_cons (s_call (ok__law_digit T) (a_cons (s_var (i := 1) rfl (.inl rfl)) (a_cons s_int a_nil))) a_nil)) (g_name sc__law_right.nd rfl)
 (z_one (z_expr (s_call (ok__law_call T) (a_cons (s_var (i := 1) rfl (.inl rfl)) (a_cons (s_var (i := 4) rfl (.inl rfl)) a_nil))))))
 (z_cons (z_set sc__law_right.nd rfl (s_call (ok__law_state T) (a_cons (s_var (i := 2) rfl (.inr (.inl rfl))) a_nil)))
 (z_cons (z_if (b_ww (w_or (b_not (b_cmpc (o_eqO (ok_Queue___eq__ T)) (s_var (i := 2) rfl (.inr (.inl rfl))) (s_var (i := 4) rfl (.inl rfl)))) (w_or (b_cmpc (o_neO (ok_Queue___eq__ T) T.Queue_ne) (s_var (i := 2) rfl (.inr (.inl rfl))) (s_var (i := 4) rfl (.inl rfl))) (w_or (b_cmpr2 o_neD (s_var (i := 5) rfl (.inl rfl)) (s_call (ok__law_state T) (a_cons (s_var (i := 4) rfl (.inl rfl)) a_nil))) (w_or1 (b_cmp o_neS (s_reprO (ok_Queue___repr__ T) T.n_repr (s_var (i := 2) rfl (.inr (.inl rfl)))) (s_call (ok__law_written T) (a_cons (s_var (i := 2) rfl (.inr (.inl rfl))) a_nil))))))))
 (z_one (z_ret s_bl))
 z_nil)
 (z_cons (z_if (b_ww (w_or (b_cmp o_neI (s_lenO (ok_Queue___len__ T) T.n_len (s_var (i := 2) rfl (.inr (.inl rfl)))) (s_bi c_lenL T.n_len PySem.boot_len (a_cons (s_meth0 T.Queue_c (ok_Queue_waiting T) (s_var (i := 2) rfl (.inr (.inl rfl)))) a_nil))) (w_or (b_not (b_val (s_call (ok__law_refused_right T) (a_cons (s_var (i := 0) rfl (.inl rfl)) (a_cons (s_var (i := 2) rfl (.inr (.inl rfl))) a_nil))))) (w_or1 (b_cmpr2 o_neD (s_call (ok__law_state T) (a_cons (s_var (i := 2) rfl (.inr (.inl rfl))) a_nil)) (s_var (i := 5) rfl (.inl rfl)))))))
 (z_one (z_ret s_bl))
 z_nil)
 (z_cons (z_if (b_not (b_val (s_bi c_all T.n_all boot_all (a_cons (s_lc0 (own := [("_law_one", 6)]) (i_L (s_call (ok__law_others T) (a_cons (s_var (i := 2) rfl (.inr (.inl rfl))) a_nil))) sc__law_right.nd (blk_fx (by decide +kernel)) (fun _ _ _ _ _ => (g_name sc__law_right.nd rfl)) (fun _ _ _ _ _ => (s_and (s_cmpc (o_neO (ok_Queue___eq__ T) T.Queue_ne) (s_var (i := 2) (by rfl) (by walk_at "G:vis")) (s_var (i := 6) (by rfl) (by walk_at "G:vis"))) (s_one (s_not (s_cmpc (o_eqO (ok_Queue___eq__ T)) (s_var (i := 2) (by rfl) (by walk_at "G:vis")) (s_var (i := 6) (by rfl) (by walk_at "G:vis")))))))) a_nil))))
 (z_one (z_ret s_bl))
 z_nil)
 (z_cons (z_set sc__law_right.nd rfl (s_lst (a_cons s_non (a_cons s_int (a_cons s_str (a_cons (s_lst a_nil) (a_cons (s_tup a_nil) (a_cons s_dct0 (a_cons (s_meth0 T.Queue_c (ok_Queue_waiting T) (s_var (i := 2) rfl (.inr (.inl rfl)))) (a_cons (s_reprO (ok_Queue___repr__ T) T.n_repr (s_var (i := 2) rfl (.inr (.inl rfl)))) (a_cons (s_mkX T.NotRemembered_o T.NotRemembered_g (ok_NotRemembered___init__ T) (a_cons s_int a_nil)) a_nil)))))))))))
 (z_cons (z_if (b_ww (w_or (b_val (s_bi c_any T.n_any (by decide +kernel) (a_cons (s_lc0 (own := [("_law_one", 6)]) (i_L (s_var (i := 7) rfl (.inl rfl))) sc__law_right.nd (blk_fx (by decide +kernel)) (fun _ _ _ _ _ => (g_name sc__law_right.nd rfl)) (fun _ _ _ _ _ => (s_cmpc (o_eqAny (ok_Queue___eq__ T)) (s_var (i := 2) (by rfl) (by walk_at "G:vis")) (s_var (i := 6) (by rfl) (by walk_at "G:vis"))))) a_nil))) (w_or (b_not (b_val (s_call (ok__law_copies_right T) (a_cons (s_var (i := 2) rfl (.inr (.inl rfl))) a_nil)))) (w_or1 (b_cmpr2 o_neD (s_call (ok__law_state T) (a_cons (s_var (i := 2) rfl (.inr (.inl rfl))) a_nil)) (s_var (i := 5) rfl (.inl rfl)))))))
 (z_one (z_ret s_bl))
 z_nil)
 (z_one (z_ret (s_call (ok__law_goes_on T) (a_cons (s_var (i := 2) rfl (.inr (.inl rfl))) (a_cons (s_var (i := 4) rfl (.inl rfl)) a_nil))))))))))))))))
def t__law_pot (T : All K mg) : RS :=
 zCons (zSet 2 (rIf (tCmp oLt (rVar 1) (rB (cLenL K) (aCons (rVar 0) aNil))) (rBin (oIxL K) (rVar 0) (rVar 1)) (rC (.int 0))))
 (zRet (rLst (aCons (rB cMax (aCons (rC (.int 0)) (aCons (rBin oSub (rB cAbs (aCons (rVar 2) aNil)) (rBin oPow (rC (.int 10)) (rC (.int 18)))) aNil))) (aCons (rBin oAdd (rBin oMod (rBin oPow (rBin oAdd (rBin oAdd (rBin oMod (rB cAbs (aCons (rVar 2) aNil)) (rC (.int 2147483477))) (rBin oMul (rC (.int 101)) (rVar 1))) (rC (.int 3))) (rC (.int 2))) (rC (.int 2147483399))) (rC (.int 1))) aNil))))
@[irreducible] def sp__law_pot (T : All K mg) : Sp := rFn 2 ["_law_script", "_law_k", "_law_cell"] (t__law_pot T)
theorem ok__law_pot (T : All K mg) : Cal P w K mg base "_law_pot" 1 ["_law_script", "_law_k"] [] (sp__law_pot T) := by
 delta sp__law_pot; exact T._law_pot.rcal sc__law_pot fun cd A outer s H1 E1 =>
 (z_cons (z_set sc__law_pot.nd rfl (s_if (b_cmp o_lt (s_var (i := 1) rfl (.inl rfl)) (s_bi c_lenL T.n_len PySem.boot_len (a_cons (s_var (i := 0) rfl (.inl rfl)) a_nil))) (s_ix x_lst (s_var (i := 0) rfl (.inl rfl)) (s_var (i := 1) rfl (.inl rfl))) s_int))
 (z_one (z_ret (s_lst (a_cons (s_bi c_max T.n_max PyProof.Rows.boot_max (a_cons s_int (a_cons (s_bin o_sub (s_bi c_abs T.n_abs boot_abs (a_cons (s_var (i := 2) rfl (.inl rfl)) a_nil)) (s_bin o_pow s_int s_int)) a_nil))) (a_cons (s_bin o_add (s_bin o_mod (s_bin o_pow (s_bin o_add (s_bin o_add (s_bin o_mod (s_bi c_abs T.n_abs boot_abs (a_cons (s_var (i := 2) rfl (.inl rfl)) a_nil)) s_int) (s_bin o_mul s_int (s_var (i := 1) rfl (.inl rfl)))) s_int) s_int) s_int) s_int) a_nil))))))
/-- return all([_law_right(_law_pot(_law_script, _law_k)) for _law_k in range(max(1, min(len(_law_script), 4)))]) -/
def k1_law (T : All K mg) : RS :=
 zRet (rB (cAll K) (aCons (rLc (iR1 (aCons (rB cMax (aCons (rC (.int 1)) (aCons (rB cMin (aCons (rB (cLenL K) (aCons (rVar 0) aNil)) (aCons (rC (.int 4)) aNil))) aNil))) aNil)) (gName 1) tY (rCall (sp__law_right T) [] (aCons (rCall (sp__law_pot T) [] (aCons (rVar 0) (aCons (rVar 1) aNil))) aNil)) [1]) aNil))
def t_law (T : All K mg) : RS :=
 zCons (zIf (tCmp (oNeD K) (rLst (aCons (rC (.int 2)) (aCons (rC (.int 9)) aNil))) (rLst (aCons (rC (.int 2)) (aCons (rC (.int 9)) aNil))))
 (zRet (rC (.bl false)))
 (zNil))
 (k1_law T)
@[irreducible] def sp_law (T : All K mg) : Sp := rFn 1 ["_law_script", "_law_k"] (t_law T)
theorem ok_law (T : All K mg) : FnG P w K mg base 14 T.law.f T.law.fd ["_law_script"] (sp_law T) := by
 delta sp_law; exact T.law.rfng sc_law fun cd A outer s H1 E1 =>
 (z_cons (z_if (b_cmpr2 o_neD (s_lst (a_cons (s_globE (f := Value.int 2) T.LEAST_CAPACITY_g fun _ => ⟨_, rfl⟩) (a_cons (s_globE (f := Value.int 9) T.MOST_CAPACITY_g fun _ => ⟨_, rfl⟩) a_nil))) (s_lst (a_cons s_int (a_cons s_int a_nil))))
 (z_one (z_ret s_bl))
 z_nil)
 (z_one (z_ret (s_bi c_all T.n_all boot_all (a_cons (s_lc0 (own := [("_law_k", 1)]) (i_R1 T.n_range (a_cons (s_bi c_max T.n_max PyProof.Rows.boot_max (a_cons s_int (a_cons (s_bi c_min T.n_min PyProof.Rows.boot_min (a_cons (s_bi c_lenL T.n_len PySem.boot_len (a_cons (s_var (i := 0) rfl (.inr (.inl rfl))) a_nil)) (a_cons s_int a_nil))) a_nil))) a_nil)) sc_law.nd (blk_fx (by decide +kernel)) (fun _ _ _ _ _ => (g_name sc_law.nd rfl)) (fun _ _ _ _ _ => (s_call (ok__law_right T) (a_cons (s_call (ok__law_pot T) (a_cons (s_var (i := 0) (by rfl) (by walk_at "G:vis")) (a_cons (s_var (i := 1) (by rfl) (by walk_at "G:vis")) a_nil))) a_nil)))) a_nil)))))
end

section
variable {P : Program} {w : World} {K : PySem.W.Frag} {mg : Str → Option Value} {base : Heap}
theorem Queue_state_ok (T : All K mg) {a kl cl : Addr} {q : Qst} {H : Hp} {Q : VK} {E : XK} (h : QAt T.Queue H a kl cl q) (k : ∀ t, H t = none → Q (.ref t) (upd H t (.tup [.int q.size, .int q.first, .int q.mark, optV q.latest, .ref kl]))) : sp_Queue_state T [.ref a] H Q E := by
  obtain ⟨⟨dx, h1⟩, _⟩ := h
  unfold sp_Queue_state
  refine ⟨rfl, ?_⟩
  walk_at "vc"
  refine ⟨a, dx, _, _, rfl, h1, rfl, a, dx, _, _, rfl, h1, rfl, a, dx, _, _, rfl, h1, rfl, a, dx, _, _, rfl, h1, rfl, a, dx, _, _, rfl, h1, rfl, ?_⟩
  exact ⟨Nat.le_of_ble_eq_true rfl, fun t nt => fg.i (k t nt)⟩
theorem Queue_eq_ok (T : All K mg) {a b kl cl kl2 cl2 : Addr} {q r : Qst} {H : Hp} {Q : VK} {E : XK} (h : QAt T.Queue H a kl cl q) (h2 : QAt T.Queue H b kl2 cl2 r) (k : Q (.bl (q.eqv r)) H) : sp_Queue___eq__ T [.ref a, .ref b] H Q E := by
  obtain ⟨dx, h1⟩ := h.ins
  obtain ⟨dx2, i2⟩ := h2.ins
  unfold sp_Queue___eq__
  refine ⟨rfl, ?_⟩
  walk_at "vc"
  refine ⟨_, true, .ins i2 T.Queue_is, rfl, T.Queue_is.me, ?_⟩
  refine ⟨(fun _ => ?_), (fun z => nomatch z)⟩
  walk_at "vc"
  refine ⟨a, dx, _, rfl, h1, rfl, ?_⟩
  refine Queue_state_ok T h fun t nt => ?_
  have x1 : Ex H (upd H t (.tup [.int q.size, .int q.first, .int q.mark, optV q.latest, .ref kl])) := Ex.put nt
  refine ⟨b, dx2, _, rfl, x1 _ _ i2, rfl, ?_⟩
  refine Queue_state_ok T (h2.ex x1) fun t2 nt2 => ?_
  have x2 := x1.trans (Ex.put (o := .tup [.int r.size, .int r.first, .int r.mark, optV r.latest, .ref kl2]) nt2)
  refine ⟨q.data, r.data, .tup (.of (hp_ne nt2 upd_same)) (.cons (.int _) (.cons (.int _) (.cons (.int _) (.cons (dp_opt _) (.cons (.lst (.of (x2 _ _ h.kept)) (dp_ints _)) .nil))))),
    .tup (.of upd_same) (.cons (.int _) (.cons (.int _) (.cons (.int _) (.cons (dp_opt _) (.cons (.lst (.of (x2 _ _ h2.kept)) (dp_ints _)) .nil))))), q.shaped, r.shaped, ?_⟩
  rw [Qst.eqv_data]
  exact ⟨H, x2, k⟩
theorem Queue_eq_no (T : All K mg) {a : Addr} {v : V} {t : Value} {H : Hp} {Q : VK} {E : XK} (ht : AnyT K H v t) (hu : PySem.W.kitOne K t (.ref T.Queue) = some false) (q : Q (.bl false) H) : sp_Queue___eq__ T [.ref a, v] H Q E := by
  unfold sp_Queue___eq__
  refine ⟨rfl, ?_⟩
  walk_at "vc"
  refine ⟨_, false, ht, rfl, hu, ?_⟩
  exact ⟨(fun z => nomatch z), fun _ => fg.i q⟩
theorem Queue_len_ok (T : All K mg) {a kl cl : Addr} {q : Qst} {H : Hp} {Q : VK} {E : XK} (h : QAt T.Queue H a kl cl q) (k : Q (.int q.kept.length) H) : sp_Queue___len__ T [.ref a] H Q E := by
  obtain ⟨⟨dx, h1⟩, h2, _⟩ := h
  unfold sp_Queue___len__
  refine ⟨rfl, ?_⟩
  walk_at "vc"
  refine ⟨a, dx, _, _, rfl, h1, rfl, kl, _, rfl, .of h2, ?_⟩
  rw [List.length_map]
  exact fg.i k
theorem Queue_repr_ok (T : All K mg) {a kl cl : Addr} {q : Qst} {H : Hp} {Q : VK} {E : XK} (h : QAt T.Queue H a kl cl q) (ok : QOk q) (k : Q (.str q.text) H) : sp_Queue___repr__ T [.ref a] H Q E := by
  obtain ⟨⟨dx, h1⟩, h2, _⟩ := h
  have c9 := ok.c9
  have f0 := ok.f0
  have f1 := ok.f1
  have m0 := ok.m0
  have m1 := ok.m1
  unfold Big at f1 m1
  have s1 := ofs_len (i := (q.size : Int)) (by omega)
  have s2 := ofs_len (i := q.first) (by omega)
  have s3 := ofs_len (i := q.mark) (by omega)
  have s4 := opt_len ok.latest
  have s5 := kept_len ok
  have a1 : (Str.empty ++ Str.ofString "capacity=").length ≤ 100 := by decide +kernel
  have a2 := lt_app a1 s1
  have a3 := lt_app a2 (show (Str.ofString ", start=").length ≤ 100 by decide +kernel)
  have a4 := lt_app a3 s2
  have a5 := lt_app a4 (show (Str.ofString ", passed=").length ≤ 100 by decide +kernel)
  have a6 := lt_app a5 s3
  have a7 := lt_app a6 (show (Str.ofString ", newest=").length ≤ 100 by decide +kernel)
  have a8 := lt_app a7 s4
  have b1 : (Str.empty ++ Str.ofString "Queue(").length ≤ 100 := by decide +kernel
  have b2 := lt_app b1 a8
  have b3 := lt_app b2 (show (Str.ofString ", waiting=").length ≤ 100 by decide +kernel)
  have b4 := lt_app b3 s5
  have b5 := lt_app b4 (show (Str.ofString ")").length ≤ 100 by decide +kernel)
  have big : ∀ {x n : Nat}, x ≤ n → n ≤ 10000000 → x ≤ sizeLine := fun h1 h2 => Nat.le_trans h1 (Nat.le_trans h2 (by decide))
  unfold sp_Queue___repr__
  refine ⟨rfl, ?_⟩
  walk_at "vc"
  refine ⟨_, rfl, big a1 (by decide), ?_⟩
  walk_at "vc"
  refine ⟨a, dx, _, _, rfl, h1, rfl, int_log (by omega), _, rfl, big a2 (by decide), ?_⟩
  walk_at "vc"
  refine ⟨_, rfl, big a3 (by decide), ?_⟩
  walk_at "vc"
  refine ⟨a, dx, _, _, rfl, h1, rfl, int_log (by omega), _, rfl, big a4 (by decide), ?_⟩
  walk_at "vc"
  refine ⟨_, rfl, big a5 (by decide), ?_⟩
  walk_at "vc"
  refine ⟨a, dx, _, _, rfl, h1, rfl, int_log (by omega), _, rfl, big a6 (by decide), ?_⟩
  walk_at "vc"
  refine ⟨_, rfl, big a7 (by decide), ?_⟩
  walk_at "vc"
  refine ⟨a, dx, _, _, rfl, h1, rfl, optD q.latest, dp_opt _, opt_rp ok.latest, big s4 (by decide), _, rfl, big a8 (by decide), ?_⟩
  walk_at "vc"
  refine ⟨_, rfl, big b1 (by decide), ?_⟩
  walk_at "vc"
  refine ⟨big a8 (by decide), _, rfl, big b2 (by decide), ?_⟩
  walk_at "vc"
  refine ⟨_, rfl, big b3 (by decide), ?_⟩
  walk_at "vc"
  refine ⟨a, dx, _, _, rfl, h1, rfl, .list (q.kept.map PyData.int), .lst (.of h2) (dp_ints _), kept_rp ok, big s5 (by decide), _, rfl, big b4 (by decide), ?_⟩
  walk_at "vc"
  refine ⟨_, rfl, big b5 (by decide), ?_⟩
  exact fg.i k
theorem is_int_ok (T : All K mg) {v : V} {H : Hp} {Q : VK} {E : XK} {C : String} (ht : Ty H v C) (q : Q (.bl (isInt v)) H) : sp_is_int T [v] H Q E := by
  unfold sp_is_int
  refine ⟨rfl, ?_⟩
  walk_at "vc"
  refine ⟨_, _, ht, rfl, .inl rfl, ?_⟩
  walk_at "vc"
  have e := ht.int_is
  refine ⟨fun h => ?_, fun h => ?_⟩
  · walk_at "vc"
    refine ⟨_, _, ht, rfl, .inr (.inl rfl), ?_⟩
    rw [h, Bool.true_and] at e
    exact fg.i (by rw [e]; exact q)
  · rw [h, Bool.false_and] at e
    exact fg.i (by rw [e]; exact q)
theorem want_capacity_int (T : All K mg) {n : Int} (h : 2 ≤ n) (h9 : n ≤ 9) {H : Hp} {Q : VK} {E : XK} (q : Q .non H) : sp_want_capacity T [.int n] H Q E := by
  unfold sp_want_capacity
  refine ⟨rfl, ?_⟩
  walk_at "vc"
  refine is_int_ok T (.int n) ?_
  walk_at "vc"
  refine ⟨(fun h => nomatch h), fun _ => ?_⟩
  walk_at "vc"
  refine ⟨fun h1 => ?_, fun h1 => ?_⟩
  · walk_at "vc"
    refine ⟨fun h2 => ?_, fun h2 => ?_⟩
    · have := of_decide_eq_false (by simpa using h2 : decide (n ≤ 9) = false); omega
    · exact fg.i q
  · have := of_decide_eq_false h1; omega
theorem is_version_ok (T : All K mg) {v : V} {H : Hp} {Q : VK} {E : XK} {C : String} (ht : Ty H v C) (q : Q (.bl (numAt 0 v)) H) : sp_is_version T [v] H Q E := by
  unfold sp_is_version
  refine ⟨rfl, ?_⟩
  walk_at "vc"
  refine is_int_ok T ht ?_
  walk_at "vc"
  refine ⟨fun h => ?_, fun h => ?_⟩
  · cases v <;> first | cases h | skip
    walk_at "vc"
    exact fg.i q
  · refine fg.i ?_
    cases v <;> first | exact q | cases h
theorem want_version_ok (T : All K mg) {v : V} {H : Hp} {Q : VK} {E : XK} {C : String} (ht : Ty H v C) (q : numAt 0 v = true → Q .non H) (qe : numAt 0 v = false → E (.ref T.InvalidVersion) none H) : sp_want_version T [v] H Q E := by
  unfold sp_want_version
  refine ⟨rfl, ?_⟩
  walk_at "vc"
  refine is_version_ok T ht ?_
  walk_at "vc"
  refine ⟨fun h => ⟨by decide, qe (by simpa using h)⟩, fun h => fg.i (q (by simpa using h))⟩
theorem want_version_int (T : All K mg) {n : Int} (h : 0 ≤ n) {H : Hp} {Q : VK} {E : XK} (q : Q .non H) : sp_want_version T [.int n] H Q E :=
  want_version_ok T (.int n) (fun _ => q) fun z => (numAt_bad h z).elim
theorem Queue_init_ok (T : All K mg) {x dx : Addr} {cap : Nat} {start : Int} {H : Hp} {Q : VK} {E : XK} (hx : H x = some (.ins T.Queue dx [])) (c2 : 2 ≤ cap) (c9 : cap ≤ 9) (s0 : 0 ≤ start)
    (q : ∀ kl cl H', Fr [x] H H' → H kl = none → H cl = none → kl ≠ cl → QAt T.Queue H' x kl cl (Qst.new cap start) → Q .non H') : sp_Queue___init__ T [.ref x, .int cap, .int start] H Q E := by
  unfold sp_Queue___init__
  refine ⟨rfl, ?_⟩
  walk_at "vc"
  refine want_capacity_int T (by omega) (by omega) ?_
  walk_at "vc"
  refine want_version_int T s0 ?_
  walk_at "vc"
  refine ⟨x, dx, [], rfl, hx, by decide, ?_⟩
  walk_at "vc"
  refine ⟨x, dx, _, rfl, upd_same, Nat.le_of_ble_eq_true rfl, ?_⟩
  rw [upd_upd]
  walk_at "vc"
  refine ⟨x, dx, _, rfl, upd_same, Nat.le_of_ble_eq_true rfl, ?_⟩
  rw [upd_upd]
  walk_at "vc"
  refine ⟨x, dx, _, rfl, upd_same, Nat.le_of_ble_eq_true rfl, ?_⟩
  rw [upd_upd]
  walk_at "vc"
  refine ⟨Nat.le_of_ble_eq_true rfl, fun kl nkl => ?_⟩
  have f0 : Fr [x] H H := .of_ex (Ex.refl _)
  have mem : x ∈ [x] := by simp
  have n1 : kl ≠ x := fun e => by subst e; rw [upd_same] at nkl; cases nkl
  have nk : H kl = none := by rw [upd_ne n1] at nkl; exact nkl
  refine ⟨x, dx, _, rfl, by rw [upd_ne n1.symm]; exact upd_same, Nat.le_of_ble_eq_true rfl, ?_⟩
  walk_at "vc"
  refine ⟨x, dx, _, rfl, upd_same, Nat.le_of_ble_eq_true rfl, ?_⟩
  rw [upd_upd]
  walk_at "vc"
  refine ⟨Nat.le_of_ble_eq_true rfl, fun cl ncl => ?_⟩
  have n2 : cl ≠ x := fun e => by subst e; rw [upd_same] at ncl; cases ncl
  rw [upd_ne n2] at ncl
  have n3 : cl ≠ kl := fun e => by subst e; rw [upd_same] at ncl; cases ncl
  have nc : H cl = none := by rw [upd_ne n3, upd_ne n2] at ncl; exact ncl
  refine ⟨x, dx, _, rfl, by rw [upd_ne n2.symm]; exact upd_same, Nat.le_of_ble_eq_true rfl, ?_⟩
  refine fg.i (q kl cl _ ?_ nk nc n3.symm ⟨⟨dx, upd_same⟩, ?_, [], ?_, rfl, fun i c k e => nomatch e⟩)
  · exact (((((f0.upd (.inl mem)).upd (.inr nkl)).upd (.inl mem)).upd (.inr (by rw [upd_ne n2]; exact ncl))).upd (.inl mem))
  · rw [upd_ne n1, upd_ne n3.symm, upd_ne n1]; exact upd_same
  · rw [upd_ne n2]; exact upd_same

theorem Queue_capacity_ok (T : All K mg) {a kl cl : Addr} {q : Qst} {H : Hp} {Q : VK} {E : XK} (h : QAt T.Queue H a kl cl q) (k : Q (.int q.size) H) : sp_Queue_capacity T [.ref a] H Q E := by
  obtain ⟨⟨dx, h1⟩, _⟩ := h
  unfold sp_Queue_capacity
  refine ⟨rfl, ?_⟩
  walk_at "vc"
  exact ⟨a, dx, _, _, rfl, h1, rfl, fg.i k⟩
theorem Queue_start_ok (T : All K mg) {a kl cl : Addr} {q : Qst} {H : Hp} {Q : VK} {E : XK} (h : QAt T.Queue H a kl cl q) (k : Q (.int q.first) H) : sp_Queue_start T [.ref a] H Q E := by
  obtain ⟨⟨dx, h1⟩, _⟩ := h
  unfold sp_Queue_start
  refine ⟨rfl, ?_⟩
  walk_at "vc"
  exact ⟨a, dx, _, _, rfl, h1, rfl, fg.i k⟩
theorem Queue_passed_ok (T : All K mg) {a kl cl : Addr} {q : Qst} {H : Hp} {Q : VK} {E : XK} (h : QAt T.Queue H a kl cl q) (k : Q (.int q.mark) H) : sp_Queue_passed T [.ref a] H Q E := by
  obtain ⟨⟨dx, h1⟩, _⟩ := h
  unfold sp_Queue_passed
  refine ⟨rfl, ?_⟩
  walk_at "vc"
  exact ⟨a, dx, _, _, rfl, h1, rfl, fg.i k⟩
theorem Queue_newest_ok (T : All K mg) {a kl cl : Addr} {q : Qst} {H : Hp} {Q : VK} {E : XK} (h : QAt T.Queue H a kl cl q) (k : Q (optV q.latest) H) : sp_Queue_newest T [.ref a] H Q E := by
  obtain ⟨⟨dx, h1⟩, _⟩ := h
  unfold sp_Queue_newest
  refine ⟨rfl, ?_⟩
  walk_at "vc"
  exact ⟨a, dx, _, _, rfl, h1, rfl, fg.i k⟩
theorem Queue_waiting_ok (T : All K mg) {a kl cl : Addr} {q : Qst} {H : Hp} {Q : VK} {E : XK} (h : QAt T.Queue H a kl cl q) (k : ∀ p, H p = none → Q (.ref p) (upd H p (.lst (q.kept.map V.int)))) : sp_Queue_waiting T [.ref a] H Q E := by
  obtain ⟨⟨dx, h1⟩, h2, _⟩ := h
  unfold sp_Queue_waiting
  refine ⟨rfl, ?_⟩
  walk_at "vc"
  exact ⟨a, dx, _, _, rfl, h1, rfl, kl, _, rfl, .of h2, fun p np => fg.i (k p np)⟩
theorem Arrivals_init_ok (T : All K mg) {x wl dx : Addr} {m lo hi : Int} {H : Hp} {Q : VK} {E : XK} (hx : H x = some (.ins T.Arrivals dx [])) (q : Q .non (upd H x (.ins T.Arrivals dx [("mark", .int m), ("waited", .ref wl), ("low", .int (mx lo (m + 1))), ("high", .int hi)]))) : sp_Arrivals___init__ T [.ref x, .int m, .ref wl, .int lo, .int hi] H Q E := by
  unfold sp_Arrivals___init__
  refine ⟨rfl, ?_⟩
  walk_at "vc"
  refine ⟨x, dx, [], rfl, hx, by decide, ?_⟩
  walk_at "vc"
  refine ⟨x, dx, _, rfl, upd_same, Nat.le_of_ble_eq_true rfl, ?_⟩
  rw [upd_upd]
  walk_at "vc"
  refine ⟨x, dx, _, rfl, upd_same, Nat.le_of_ble_eq_true rfl, ?_⟩
  rw [upd_upd]
  walk_at "vc"
  refine ⟨x, dx, _, rfl, upd_same, Nat.le_of_ble_eq_true rfl, ?_⟩
  rw [upd_upd]
  exact fg.i q
theorem want_number_ok (T : All K mg) {v : V} {l : Int} (hl : l = 0 ∨ l = 1) {H : Hp} {Q : VK} {E : XK} {C : String} (ht : Ty H v C) (q : numAt l v = true → Q .non H) (qe : numAt l v = false → E (.ref T.InvalidNumber) none H) : sp_want_number T [v, .int l] H Q E := by
  have er : ∀ {Q : VK}, numAt l v = false → (zRaise T.InvalidNumber (aCons (rJoin [rC (.str "an integer that is at least "), rFmtI (rVar 1), rC (.str " is required")]) aNil)) { nx := fun _ H' => fg (Q .non) H', rt := fun v H' => fg (Q v) H' } (fun c d _ H' => E c d H') [some v, some (.int l)] H := fun h => by
    walk_at "vc"
    refine ⟨_, rfl, by decide, ?_⟩
    walk_at "vc"
    refine ⟨by rcases hl with rfl | rfl <;> decide, ?_⟩
    walk_at "vc"
    refine ⟨_, rfl, by rcases hl with rfl | rfl <;> decide +kernel, ?_⟩
    walk_at "vc"
    refine ⟨_, rfl, by rcases hl with rfl | rfl <;> decide +kernel, ?_⟩
    exact ⟨Nat.le_of_ble_eq_true rfl, qe h⟩
  unfold sp_want_number
  refine ⟨rfl, ?_⟩
  walk_at "vc"
  refine is_int_ok T ht ?_
  walk_at "vc"
  refine ⟨fun h => ?_, fun h => ?_⟩
  · refine ⟨fun _ => er ?_, fun h => nomatch h⟩
    cases v <;> first | rfl | cases h
  · obtain ⟨n, rfl⟩ : ∃ i, v = .int i := by cases v <;> first | exact ⟨_, rfl⟩ | cases h
    walk_at "vc"
    refine ⟨fun h => er ?_, fun h => fg.i (q ?_)⟩
    · simpa [numAt] using h
    · simpa [numAt] using h
theorem want_number_int (T : All K mg) {n l : Int} (hl : l = 0 ∨ l = 1) (h : l ≤ n) {H : Hp} {Q : VK} {E : XK} (q : Q .non H) : sp_want_number T [.int n, .int l] H Q E :=
  want_number_ok T hl (.int n) (fun _ => q) fun z => by simp [numAt] at z; omega
theorem odd_multiples_ok (T : All K mg) {low high power : Int} {n : Nat} (l0 : 0 ≤ low) (h0 : 0 ≤ high) (h1 : high < 1000000000000000000000000000000000000000000000000000000000000000) (p0 : 0 < power) (p1 : power < 10000000000000000000000000000000000000000000000000000000000000000) (n1 : n ≤ 100000)
    {H : Hp} {Q : VK} {E : XK} (q : ∀ p, H p = none → Q (.ref p) (upd H p (.lst ((oddFrom low power n (lastOf high power)).map V.int)))) : sp_odd_multiples T [.int low, .int high, .int power, .int n] H Q E := by
  unfold sp_odd_multiples
  refine ⟨rfl, ?_⟩
  have d0 : 0 ≤ high / power := Int.ediv_nonneg h0 (by omega)
  have d1 : high / power ≤ high := Int.ediv_le_self _ h0
  walk_at "vc"
  refine ⟨by walk_at "G:fdiv", ?_⟩
  walk_at "vc"
  refine ⟨show (0 : Int) < 2 by decide, ?_⟩
  walk_at "vc"
  have main : ∀ last : Int, lastOf high power = last → -1 ≤ last → last ≤ high → (zCons (zSet 5 (rLst (aNil)))
 (zCons (zWhile (tAnd (tCmp oLt (rB (cLenL K) (aCons (rVar 5) aNil)) (rVar 3)) (tAnd (tCmp oGt (rVar 4) (rC (.int 0))) (tCmp oGe (rBin oMul (rVar 4) (rVar 2)) (rVar 0))))
 (zCons (zExpr (rAppV 5 (rBin oMul (rVar 4) (rVar 2))))
 (zAug 4 oSub (rC (.int 2)))))
 (zRet (rVar 5)))) { nx := fun _ H' => fg (Q .non) H', rt := fun v H' => fg (Q v) H' } (fun c d _ H' => E c d H') [some (.int low), some (.int high), some (.int power), some (.int n), some (.int last), none] H := by
    intro last e z0 z1
    rw [e] at q
    walk_at "vc"
    refine ⟨by decide, fun fl nf => ?_⟩
    walk_at "vc"
    refine ⟨fun m σ' H2 => ∃ (acc : List Int) (l : Int), σ' = [some (.int low), some (.int high), some (.int power), some (.int n), some (.int l), some (.ref fl)] ∧ H2 = upd H fl (.lst (acc.map V.int)) ∧ acc.length ≤ n ∧ -1 ≤ l ∧ l ≤ high ∧ acc ++ oddFrom low power (n - acc.length) l = oddFrom low power n last ∧ m = n - acc.length, _, ⟨[], last, rfl, rfl, Nat.zero_le _, z0, z1, rfl, rfl⟩, ?_⟩
    rintro m σ' H2 ⟨acc, l, rfl, rfl, hl, y0, y1, ht, rfl⟩
    walk_at "vc"
    refine ⟨fl, _, rfl, .of upd_same, ?_⟩
    walk_at "vc"
    have stop : (∀ r, n - acc.length = r + 1 → ¬ (l > 0 ∧ l * power ≥ low)) → fg (Q (.ref fl)) (upd H fl (.lst (acc.map V.int))) := fun no => by
      have e : acc = oddFrom low power n last := by
        rw [← ht]
        have z : oddFrom low power (n - acc.length) l = [] := by
          cases hr : n - acc.length with
          | zero => rfl
          | succ r =>
            show (if (decide (l > 0) && decide (l * power ≥ low)) = true then l * power :: oddFrom low power r (l - 2) else []) = []
            rw [if_neg]
            simpa using no r hr
        rw [z, List.append_nil]
      rw [e]
      exact fg.i (q fl nf)
    refine ⟨fun k1 => ?_, fun k1 => ⟨(fun z => nomatch z), fun _ => stop fun r hr _ => ?_⟩⟩
    · have k1 : acc.length < n := by simp only [List.length_map, decide_eq_true_eq] at k1; omega
      walk_at "vc"
      refine ⟨fun k2 => ?_, fun k2 => ⟨(fun z => nomatch z), fun _ => stop fun r hr z => ?_⟩⟩
      · walk_at "vc"
        refine ⟨mulW ⟨by omega, by omega⟩ ⟨by omega, by omega⟩, ?_⟩
        walk_at "vc"
        refine ⟨fun k3 => ?_, fun k3 => stop fun r hr z => ?_⟩
        · walk_at "vc"
          refine ⟨⟨_, upd_same⟩, ?_⟩
          walk_at "vc"
          refine ⟨mulW ⟨by omega, by omega⟩ ⟨by omega, by omega⟩, _, upd_same, by rw [List.length_map]; omega, ?_⟩
          walk_at "vc"
          refine ⟨n - (acc.length + 1), by omega, fg.i ⟨acc ++ [l * power], l - 2, rfl, ?_, ?_, by have := of_decide_eq_true k2; omega, by omega, ?_, ?_⟩⟩
          · rw [upd_upd, List.map_append]
            rfl
          · rw [List.length_append, List.length_singleton]
            omega
          · rw [← ht, List.length_append, List.length_singleton, List.append_assoc]
            congr 1
            obtain ⟨r, hr⟩ : ∃ r, n - acc.length = r + 1 := ⟨n - acc.length - 1, by omega⟩
            rw [hr, show n - (acc.length + 1) = r by omega]
            show _ = if (decide (l > 0) && decide (l * power ≥ low)) = true then l * power :: oddFrom low power r (l - 2) else []
            rw [if_pos (by rw [show decide (l > 0) = true from k2, show decide (l * power ≥ low) = true from k3]; rfl)]
            rfl
          · rw [List.length_append, List.length_singleton]
        · exact (of_decide_eq_false k3) z.2
      · exact (of_decide_eq_false k2) z.1
    · simp only [List.length_map, decide_eq_false_iff_not] at k1
      omega
  have el : lastOf high power = if decide (high / power % 2 = 0) = true then high / power - 1 else high / power := rfl
  refine ⟨fun hk => ?_, fun hk => ?_⟩
  · walk_at "vc"
    exact main (high / power - 1) (by rw [el, if_pos hk]) (by omega) (by omega)
  · walk_at "vc"
    exact main (high / power) (by rw [el, if_neg (by rw [hk]; decide)]) (by omega) (by omega)
theorem strongest_ok (T : All K mg) {low high : Int} {n : Nat} (l0 : 0 ≤ low) (h0 : 0 ≤ high) (h1 : high < 1000000000000000000000000000000000000000000000000000000000000000) (n1 : n ≤ 100000)
    {H : Hp} {Q : VK} {E : XK} (q : ∀ p, H p = none → Q (.ref p) (upd H p (.lst ((strongL low high n).map V.int)))) : sp_strongest T [.int low, .int high, .int n] H Q E := by
  unfold sp_strongest
  refine ⟨rfl, ?_⟩
  walk_at "vc"
  refine want_version_int T l0 ?_
  walk_at "vc"
  refine want_version_int T h0 ?_
  walk_at "vc"
  refine want_number_int T (.inl rfl) (by omega) ?_
  walk_at "vc"
  have hbits : Builtin.Int.intBits high ≤ 210 := PyProof.Rows.intBits_le (by
    have e : (2 : Nat) ^ 210 = 1645504557321206042154969182557350504982735865633579863348609024 := by decide +kernel
    rw [e]
    omega)
  have main : ∀ f0 : List Int, f0.length ≤ n → strongL low high n = strL low high n (Builtin.Int.intBits high + 1) f0 → ∀ fl, H fl = none → (zCons (zSet 4 (rBin oShl (rC (.int 1)) (rBits (rVar 1))))
 (zCons (zWhile (tAnd (tCmp oGt (rVar 4) (rC (.int 0))) (tCmp oLt (rB (cLenL K) (aCons (rVar 3) aNil)) (rVar 2)))
 (zCons (zExpr (rExtV 3 (rCall (sp_odd_multiples T) [] (aCons (rVar 0) (aCons (rVar 1) (aCons (rVar 4) (aCons (rBin oSub (rVar 2) (rB (cLenL K) (aCons (rVar 3) aNil))) aNil)))))))
 (zAug 4 oShr (rC (.int 1)))))
 (zRet (rVar 3)))) { nx := fun _ H' => fg (Q .non) H', rt := fun v H' => fg (Q v) H' } (fun c d _ H' => E c d H') [some (.int low), some (.int high), some (.int n), some (.ref fl), none] (upd H fl (.lst (f0.map V.int))) := by
    intro f0 s0 hst fl nf
    walk_at "vc"
    refine ⟨shl_fits (by omega) (by omega) (by decide) (by decide), ?_⟩
    walk_at "vc"
    refine ⟨fun m σ' H2 => ∃ f : List Int, σ' = [some (.int low), some (.int high), some (.int n), some (.ref fl), some (.int (pwR m))] ∧ H2 = upd H fl (.lst (f.map V.int)) ∧ f.length ≤ n ∧ m ≤ 211 ∧ strL low high n m f = strongL low high n, Builtin.Int.intBits high + 1, ⟨f0, ?_, rfl, s0, by omega, hst.symm⟩, ?_⟩
    · show [_, _, _, _, some (V.int (1 * 2 ^ ((Builtin.Int.intBits high : Nat) : Int).toNat))] = _
      rw [bits_pow]
      rfl
    rintro m σ' H2 ⟨f, rfl, rfl, hl, hm, ht⟩
    walk_at "vc"
    refine ⟨fun k1 => ?_, fun k1 => ⟨(fun z => nomatch z), fun _ => ?_⟩⟩
    · obtain ⟨k, rfl⟩ : ∃ k, m = k + 1 := by
        cases m with
        | zero => cases k1
        | succ k => exact ⟨k, rfl⟩
      have hp1 : (2 : Int) ^ k ≤ 2 ^ 210 := pow_mono (by omega)
      have e210 : (2 : Int) ^ 210 = 1645504557321206042154969182557350504982735865633579863348609024 := by decide +kernel
      rw [e210] at hp1
      have hp0 : (0 : Int) < 2 ^ k := Int.pow_pos (by decide)
      walk_at "vc"
      refine ⟨fl, _, rfl, .of upd_same, ?_⟩
      walk_at "vc"
      refine ⟨fun k2 => ?_, fun k2 => ?_⟩
      · have k2 : f.length < n := by have := of_decide_eq_true k2; rw [List.length_map] at this; omega
        walk_at "vc"
        refine ⟨⟨_, upd_same⟩, ?_⟩
        walk_at "vc"
        refine ⟨fl, _, rfl, .of upd_same, ?_⟩
        have e1 : (n : Int) - ((f.map V.int).length : Int) = ((n - f.length : Nat) : Int) := by rw [List.length_map]; omega
        show sp_odd_multiples T [.int low, .int high, .int (2 ^ k), .int ((n : Int) - ((f.map V.int).length : Int))] _ _ _
        rw [e1]
        refine odd_multiples_ok T l0 h0 h1 hp0 (by omega) (by omega) fun p np => ?_
        have ol := oddFrom_len (low := low) (power := 2 ^ k) (n - f.length) (lastOf high (2 ^ k))
        refine ⟨p, _, _, rfl, hp_ne np upd_same, upd_same, by rw [List.length_map, List.length_map]; omega, ?_⟩
        walk_at "vc"
        refine ⟨show (0 : Int) ≤ 1 by decide, ?_⟩
        have e := pwR_half k
        refine ⟨k, Nat.lt_succ_self _, upd H fl (.lst ((f ++ oddFrom low (2 ^ k) (n - f.length) (lastOf high (2 ^ k))).map V.int)), ?_, _, ?_, rfl, ?_, by omega, ?_⟩
        · rw [List.map_append]
          have x1 : Ex (upd H fl (.lst (f.map V.int))) (upd (upd H fl (.lst (f.map V.int))) p (.lst ((oddFrom low (2 ^ k) (n - f.length) (lastOf high (2 ^ k))).map V.int))) := Ex.put np
          have x2 := x1.set fl (.lst (f.map V.int ++ (oddFrom low (2 ^ k) (n - f.length) (lastOf high (2 ^ k))).map V.int))
          rw [upd_upd] at x2
          exact x2
        · rw [← e]; rfl
        · rw [List.length_append]
          omega
        · rw [← ht]
          show _ = if f.length < n then strL low high n k (f ++ oddFrom low (2 ^ k) (n - f.length) (lastOf high (2 ^ k))) else f
          rw [if_pos k2]
      · have k2 : ¬ f.length < n := by have := of_decide_eq_false k2; rw [List.length_map] at this; omega
        have e : f = strongL low high n := by
          rw [← ht]
          show f = if f.length < n then strL low high n k (f ++ oddFrom low (2 ^ k) (n - f.length) (lastOf high (2 ^ k))) else f
          rw [if_neg k2]
        rw [e]
        exact fg.i (q fl nf)
    · have e : f = strongL low high n := by
        rw [← ht]
        cases m with
        | zero => rfl
        | succ k => exact absurd (show (0 : Int) < 2 ^ k from Int.pow_pos (by decide)) (of_decide_eq_false k1)
      rw [e]
      exact fg.i (q fl nf)
  have nlt : ∀ k : Bool, decide ((n : Int) > 0) = k → (if k = true then [0] else [] : List Int).length ≤ n := fun k hk => by
    cases k with
    | true => have := of_decide_eq_true hk; simp; omega
    | false => simp
  have hst : ∀ a b : Bool, decide (low = 0) = a → decide ((n : Int) > 0) = b → strongL low high n = strL low high n (Builtin.Int.intBits high + 1) (if (a && b) = true then [0] else []) := fun a b ha hb => by subst ha; subst hb; rfl
  refine ⟨fun ha => ?_, fun ha => ⟨(fun z => nomatch z), fun _ => ?_⟩⟩
  · walk_at "vc"
    refine ⟨fun hb => ?_, fun hb => ?_⟩
    · walk_at "vc"
      exact ⟨Nat.le_of_ble_eq_true rfl, fun p np => main [0] (nlt true hb) (hst _ _ ha hb) p np⟩
    · walk_at "vc"
      exact ⟨Nat.le_of_ble_eq_true rfl, fun p np => main [] (Nat.zero_le _) (hst _ _ ha hb) p np⟩
  · walk_at "vc"
    exact ⟨Nat.le_of_ble_eq_true rfl, fun p np => main [] (Nat.zero_le _) (hst _ _ ha rfl) p np⟩
theorem lowest_bit_ok (T : All K mg) {n : Int} {H : Hp} {Q : VK} {E : XK} (q : Q (.int (lowb n)) H) : sp_lowest_bit T [.int n] H Q E := by
  unfold sp_lowest_bit
  refine ⟨rfl, ?_⟩
  walk_at "vc"
  exact fg.i q
theorem precedes_ok (T : All K mg) {a b : Int} (ha : 0 ≤ a) (hb : 0 ≤ b) {H : Hp} {Q : VK} {E : XK} (q : Q (.bl (precB a b)) H) : sp_precedes T [.int a, .int b] H Q E := by
  unfold sp_precedes
  refine ⟨rfl, ?_⟩
  walk_at "vc"
  refine want_version_int T ha ?_
  walk_at "vc"
  refine want_version_int T hb ?_
  walk_at "vc"
  unfold precB at q
  have fin : (decide (a = 0) || decide (b = 0)) = true → zRet (rAnd (rBin oEqI (rVar 0) (rC (.int 0))) (rBin oGt (rVar 1) (rC (.int 0)))) { nx := fun _ H' => fg (Q .non) H', rt := fun v H' => fg (Q v) H' } (fun c d _ H' => E c d H') [some (.int a), some (.int b), none, none] H := fun h => by
    rw [if_pos h] at q
    walk_at "vc"
    refine ⟨fun h => fg.i ?_, fun h => fg.i ?_⟩ <;> rw [h] at q <;> exact q
  refine ⟨fun h => ⟨fun _ => fin (by rw [h]; rfl), fun h => nomatch h⟩, fun h => ?_⟩
  walk_at "vc"
  refine ⟨fun h2 => fin (by rw [show decide (b = 0) = true from h2, Bool.or_true]), fun h2 => ?_⟩
  have h2 : decide (b = 0) = false := h2
  rw [if_neg (by rw [h, h2]; decide)] at q
  walk_at "vc"
  refine lowest_bit_ok T (lowest_bit_ok T ?_)
  walk_at "vc"
  refine ⟨fun h => ?_, fun h => ?_⟩
  · rw [if_pos (of_decide_eq_true h)] at q
    exact fg.i q
  · rw [if_neg (of_decide_eq_false h)] at q
    exact fg.i q
theorem weakest_ok (T : All K mg) {a : Addr} {xs : List Int} {H : Hp} {Q : VK} {E : XK} (hs : SqL K H a (xs.map V.int)) (ne : xs ≠ []) (nn : ∀ v ∈ xs, 0 ≤ v) (q : Q (.int (wk xs)) H) : sp_weakest T [.ref a] H Q E := by
  obtain ⟨x, r, rfl⟩ : ∃ x r, xs = x :: r := by cases xs with
    | nil => exact absurd rfl ne
    | cons x r => exact ⟨x, r, rfl⟩
  unfold sp_weakest
  refine ⟨rfl, ?_⟩
  walk_at "vc"
  refine ⟨a, _, 0, .int x, rfl, rfl, hs, by simp [atI, ixN], ?_⟩
  walk_at "vc"
  refine ⟨a, _, rfl, hs, fun p np => ?_⟩
  have e : cutV ((x :: r).map V.int) (some 1) none = r.map V.int := by rw [cutV_tail]; rfl
  rw [e]
  refine ⟨p, _, rfl, .of upd_same, ?_⟩
  refine forB (fun i σ' H' => H' = upd H p (.lst (r.map V.int)) ∧ ∃ z, σ' = [some (.ref a), some (.int (wkF x (r.take i))), z]) ⟨rfl, none, rfl⟩ (fun i σ' H' _ h => h.1 ▸ .of upd_same) (fun i σ' H' hi h => ?_) fun σ' H' h => ?_
  · obtain ⟨rfl, z, rfl⟩ := h
    intro v hv
    rw [List.getElem?_map] at hv
    obtain ⟨w, hw, rfl⟩ : ∃ w, r[i]? = some w ∧ v = .int w := by
      cases e : r[i]? with
      | none => rw [e] at hv; cases hv
      | some w => rw [e] at hv; cases hv; exact ⟨w, rfl, rfl⟩
    have mw : w ∈ r := List.mem_of_getElem? hw
    have m2 : wkF x (r.take i) ∈ x :: r := by
      rcases wkF_mem (r.take i) x with e | e
      · rw [e]; exact List.mem_cons_self ..
      · exact List.mem_cons_of_mem _ (List.mem_of_mem_take e)
    walk_at "vc"
    refine precedes_ok T (nn _ m2) (nn _ (List.mem_cons_of_mem _ mw)) ?_
    have st := wkF_step r x i w hw
    refine ⟨fun h => fg.i ⟨rfl, some (.int w), ?_⟩, fun h => fg.i ⟨rfl, some (.int w), ?_⟩⟩
    · rw [if_pos h] at st
      rw [st]; rfl
    · rw [if_neg (by rw [h]; decide)] at st
      rw [st]; rfl
  · obtain ⟨rfl, z, rfl⟩ := h
    rw [List.length_map, List.take_length]
    exact ⟨H, Ex.put np, q⟩
theorem after_range_ok (T : All K mg) {a : Addr} {ws : List Int} {lo hi : Int} {cap : Nat} {H : Hp} {Q : VK} {E : XK} (hs : H a = some (.lst (ws.map V.int))) (hc : 2 ≤ cap) (hc9 : cap ≤ 9) (hw : ws.length ≤ cap) (l0 : 0 ≤ lo) (hl : lo ≤ hi)
    (h1 : hi < 1000000000000000000000000000000000000000000000000000000000000000) (hb : Btw 0 (lo - 1) ws) (q : ∀ p, H p = none → Q (.ref p) (upd H p (.lst ((aftR ws lo hi cap).map V.int)))) : sp_after_range T [.ref a, .int lo, .int hi, .int cap] H Q E := by
  unfold sp_after_range
  refine ⟨rfl, ?_⟩
  walk_at "vc"
  refine ⟨a, _, rfl, .of hs, ?_⟩
  walk_at "vc"
  have ew : ((ws.map V.int).length : Int) = ws.length := by rw [List.length_map]
  rw [ew]
  refine ⟨fun k => ?_, fun k => ?_⟩
  · have k := of_decide_eq_true k
    unfold aftR at q
    rw [if_pos (by omega)] at q
    walk_at "vc"
    refine ⟨_, _, rfl, rfl, by omega, fun p np => ?_⟩
    have ep : a ≠ p := ne_of_none hs np
    refine ⟨a, p, _, _, rfl, rfl, by rw [upd_ne ep]; exact hs, upd_same, ?_, fun p2 np2 => ?_⟩
    · rw [rgV_length, List.length_map]; omega
    · rw [rgV_int, ← List.map_append]
      have n2 : H p2 = none := (Ex.put np).free np2
      exact ⟨_, (Ex.put np).set _ _, q p2 n2⟩
  · have k := of_decide_eq_false k
    unfold aftR at q
    rw [if_neg (by omega)] at q
    have hi1 : 1 ≤ hi := by
      by_cases e : hi = 0
      · have : ws = [] := List.eq_nil_iff_forall_not_mem.mpr fun v hv => by have := hb v hv; omega
        subst this
        simp at k
        omega
      · omega
    walk_at "vc"
    have ec : (cap : Int) - 1 = ((cap - 1 : Nat) : Int) := by omega
    rw [ec]
    refine strongest_ok T l0 (by omega) (by omega) (by omega) fun p np => ?_
    have ep : a ≠ p := ne_of_none hs np
    have sl := strongL_ok (low := lo) (high := hi - 1) (n := cap - 1) (by omega)
    refine ⟨a, p, _, _, rfl, rfl, by rw [upd_ne ep]; exact hs, upd_same, ?_, fun l nl => ?_⟩
    · rw [List.length_map, List.length_map]; omega
    rw [← List.map_append]
    have n2 : H l = none := (Ex.put np).free nl
    have x0 : Ex H (upd H p (.lst ((strongL lo (hi - 1) (cap - 1)).map V.int))) := Ex.put np
    generalize upd H p (.lst ((strongL lo (hi - 1) (cap - 1)).map V.int)) = H1 at nl x0 ⊢
    have ob := othR_btw (cap := cap) (lo := lo) hi1 (hb.mono (Int.le_refl 0) (by omega))
    show zCons _ _ _ _ _ (upd H1 l (.lst ((othR ws lo hi cap).map V.int)))
    have ol : (othR ws lo hi cap).length ≤ 20 := by unfold othR; rw [List.length_append]; omega
    generalize hoth : othR ws lo hi cap = oth at q ob ol ⊢
    walk_at "vc"
    refine ⟨fun m σ' H' => ∃ xs : List Int, σ' = [some (.ref a), some (.int lo), some (.int hi), some (.int cap), some (.ref l)] ∧ H' = upd H1 l (.lst (xs.map V.int)) ∧ m = xs.length ∧ xs.length ≤ 20 ∧ Btw 0 (hi - 1) xs ∧ dropW (xs.length - (cap - 1)) xs = dropW (oth.length - (cap - 1)) oth, oth.length, ⟨oth, rfl, rfl, rfl, ol, ob, rfl⟩, ?_⟩
    rintro m σ' H' ⟨xs, rfl, rfl, rfl, xl, xb, hd⟩
    walk_at "vc"
    refine ⟨l, _, rfl, .of upd_same, ?_⟩
    walk_at "vc"
    refine ⟨fun k2 => ?_, fun k2 => ?_⟩
    · have k2 : cap - 1 < xs.length := by have := of_decide_eq_true k2; rw [List.length_map] at this; omega
      have ne : xs ≠ [] := fun e => by subst e; simp at k2
      walk_at "vc"
      refine ⟨.inl ⟨rfl, _, .of upd_same⟩, ?_⟩
      refine weakest_ok T (.of upd_same) ne (fun v hv => (xb v hv).1) ?_
      obtain ⟨i, e1, e2, e3⟩ := erase_ix (wk_mem ne)
      have el : (xs.erase (wk xs)).length = xs.length - 1 := List.length_erase_of_mem (wk_mem ne)
      refine ⟨l, xs, wk xs, i, rfl, rfl, upd_same, e1, e2, ?_⟩
      rw [e3, upd_upd]
      refine ⟨xs.length - 1, by omega, _, Ex.refl _, xs.erase (wk xs), rfl, rfl, el.symm, by omega, fun v hv => xb v (List.mem_of_mem_erase hv), ?_⟩
      rw [← hd, el]
      have e5 : xs.length - (cap - 1) = (xs.length - 1 - (cap - 1)) + 1 := by omega
      rw [e5]; rfl
    · have k2 : ¬ cap - 1 < xs.length := by have := of_decide_eq_false k2; rw [List.length_map] at this; omega
      have ez : xs.length - (cap - 1) = 0 := by omega
      rw [ez] at hd
      have hd : xs = dropW (oth.length - (cap - 1)) oth := hd
      walk_at "vc"
      refine ⟨l, xs, rfl, .of upd_same, fun ys p2 pm pw np2 => ?_⟩
      rw [srt_eq pm pw]
      rw [← hd] at q
      refine ⟨Nat.le_of_ble_eq_true rfl, fun p3 np3 => ?_⟩
      refine ⟨p2, p3, _, _, rfl, rfl, hp_ne np3 upd_same, upd_same, ?_, fun p4 np4 => ?_⟩
      · have := (srt_perm xs).length_eq
        rw [List.length_map, this]
        simp; omega
      · have e6 : (srt xs).map V.int ++ [V.int hi] = (srt xs ++ [hi]).map V.int := by simp
        have n4 : H p4 = none := by
          have x1 : Ex H (upd (upd (upd H1 l (.lst (xs.map V.int))) p2 (.lst ((srt xs).map V.int))) p3 (.lst [.int hi])) := ((x0.trans (Ex.put nl)).trans (Ex.put np2)).trans (Ex.put np3)
          exact x1.free np4
        refine ⟨_, ?_, by rw [← e6] at q; exact q p4 n4⟩
        exact (((x0.trans (Ex.put nl)).trans (Ex.put np2)).trans (Ex.put np3)).set _ _
theorem Arrivals_after_ok (T : All K mg) {a wl : Addr} {r : Arr} {v : Int} {cap : Nat} {H : Hp} {Q : VK} {E : XK} (ha : ArAt T.Arrivals H a wl r) (hw : WOk r.w r.low cap) (hv : Big v) (q : ∀ p, H p = none → Q (.ref p) (upd H p (.lst ((aftA r.w r.low v cap).map V.int)))) : sp_Arrivals_after T [.ref a, .int v, .int cap] H Q E := by
  obtain ⟨⟨dx, h1⟩, h2⟩ := ha
  unfold sp_Arrivals_after
  refine ⟨rfl, ?_⟩
  walk_at "vc"
  refine ⟨a, dx, _, _, rfl, h1, rfl, ?_⟩
  walk_at "vc"
  unfold aftA at q
  refine ⟨fun k => ?_, fun k => ?_⟩
  · rw [if_pos (of_decide_eq_true k)] at q
    walk_at "vc"
    refine ⟨a, dx, _, _, rfl, h1, rfl, wl, _, rfl, .of h2, fun p np => fg.i (q p np)⟩
  · have k := of_decide_eq_false k
    rw [if_neg k] at q
    walk_at "vc"
    refine ⟨a, dx, _, _, rfl, h1, rfl, a, dx, _, _, rfl, h1, rfl, ?_⟩
    exact after_range_ok T h2 hw.c2 hw.c9 hw.len hw.l0 (by omega) hv hw.b fun p np => fg.i (q p np)
theorem Arrivals_does_hold_ok (T : All K mg) {a wl : Addr} {r : Arr} {v : Int} {H : Hp} {Q : VK} {E : XK} (ha : ArAt T.Arrivals H a wl r) (q : Q (.bl (holdsA r v)) H) : sp_Arrivals_does_hold T [.ref a, .int v] H Q E := by
  obtain ⟨⟨dx, h1⟩, h2⟩ := ha
  unfold holdsA at q
  unfold sp_Arrivals_does_hold
  refine ⟨rfl, ?_⟩
  walk_at "vc"
  refine ⟨a, dx, _, _, rfl, h1, rfl, wl, _, rfl, .of h2, rfl, flat_ints _, ?_⟩
  rw [inV_int]
  refine ⟨fun k => ?_, fun k => ?_⟩
  · rw [k] at q
    exact fg.i q
  · rw [k] at q
    walk_at "vc"
    refine ⟨a, dx, _, _, rfl, h1, rfl, ?_⟩
    walk_at "vc"
    refine ⟨fun k2 => ?_, fun k2 => ?_⟩
    · walk_at "vc"
      refine ⟨a, dx, _, _, rfl, h1, rfl, ?_⟩
      walk_at "vc"
      rw [k2] at q
      exact fg.i q
    · rw [k2] at q
      exact fg.i q
theorem Arrivals_drop_ok (T : All K mg) {a wl : Addr} {r : Arr} {v : Int} {cap : Nat} {H : Hp} {Q : VK} {E : XK} (ha : ArAt T.Arrivals H a wl r) (hw : WOk r.w r.low cap) (hh : Big r.high) (hv : Big v) (hlo : Big (r.low - 1))
    (q : ∀ t r2 H', Ex H H' → H t = none → H' t = some (.tup [.int (dropA r cap v).1, .int (dropA r cap v).2.1, .ref r2]) → H' r2 = some (.tup ((dropA r cap v).2.2.map V.int)) → Q (.ref t) H') : sp_Arrivals_drop T [.ref a, .int v, .int cap] H Q E := by
  have ha0 := ha
  obtain ⟨⟨dx, h1⟩, h2⟩ := ha
  unfold sp_Arrivals_drop
  refine ⟨rfl, ?_⟩
  walk_at "vc"
  refine ⟨a, dx, _, _, rfl, h1, rfl, ?_⟩
  walk_at "vc"
  refine ⟨a, dx, _, _, rfl, h1, rfl, ?_⟩
  walk_at "vc"
  have hm := mx_le v (r.low - 1)
  have m1 : Big (mx v (r.low - 1)) := by unfold mx; split <;> assumption
  refine ⟨fun m σ' H' => ∃ (p b : Int) (z : Option V), σ' = [some (.ref a), some (.int v), some (.int cap), some (.int p), some (.int b), z, none, none] ∧ H = H' ∧ (b - p).toNat ≤ m ∧ b ≤ r.high ∧ Big p ∧ bisF r cap v m p b = bisR r cap v, (r.high - mx v (r.low - 1)).toNat, ⟨mx v (r.low - 1), r.high, none, rfl, rfl, Nat.le_refl _, Int.le_refl _, m1, rfl⟩, ?_⟩
  rintro m σ' H' ⟨p, b, z, rfl, rfl, hm1, hb, hp, hr⟩
  walk_at "vc"
  refine ⟨fun k => ?_, fun k => ?_⟩
  · have k := of_decide_eq_true k
    obtain ⟨n, rfl⟩ : ∃ n, m = n + 1 := ⟨m - 1, by omega⟩
    unfold bisF at hr
    rw [if_pos (by omega)] at hr
    walk_at "vc"
    refine ⟨fdiv_ok (by decide) (by decide), ?_⟩
    have bm : Big ((p + b) / 2) := by unfold Big at *; omega
    refine ⟨a, dx, _, rfl, h1, rfl, ?_⟩
    refine Arrivals_after_ok T ha0 hw bm fun l nl => ?_
    refine ⟨l, _, rfl, .of upd_same, rfl, flat_ints _, ?_⟩
    rw [inV_int]
    refine ⟨fun k2 => ?_, fun k2 => ?_⟩
    · rw [if_pos (of_decide_eq_true k2)] at hr
      walk_at "vc"
      exact ⟨n, by omega, _, Ex.put nl, (p + b) / 2, b, _, rfl, rfl, by omega, hb, bm, hr⟩
    · rw [if_neg (of_decide_eq_false k2)] at hr
      walk_at "vc"
      exact ⟨n, by omega, _, Ex.put nl, p, (p + b) / 2, _, rfl, rfl, by omega, by omega, hp, hr⟩
  · have k := of_decide_eq_false k
    have er : bisR r cap v = (p, b) := by
      rw [← hr]
      cases m with
      | zero => rfl
      | succ n => unfold bisF; rw [if_neg (by omega)]
    unfold dropA at q
    rw [er] at q
    walk_at "vc"
    refine ⟨a, dx, _, rfl, h1, rfl, ?_⟩
    refine Arrivals_after_ok T ha0 hw hp fun l nl => ?_
    have al := aftA_len (v := p) hw
    refine ⟨l, _, rfl, .of upd_same, ?_⟩
    refine lc_fm (fun o => !decide (num o = v)) id (by rw [List.length_map]; have := hw.c9; omega) (.of upd_same) (fun i x d acc R hx nd k => ?_) (fun i x d acc H4 R hx hf nd x4 k => ?_) fun l2 nl2 => ?_
    · obtain ⟨y, hy, rfl⟩ := List.mem_map.mp (List.mem_of_getElem? hx)
      walk_at "vc"
      exact k _ (Ex.refl _)
    · walk_at "vc"
      exact k _ x4
    have ef : (((aftA r.w r.low p cap).map V.int).filter fun o => !decide (num o = v)).map id = ((aftA r.w r.low p cap).filter fun o => !decide (o = v)).map V.int := by
      rw [List.map_id, List.filter_map]
      rfl
    rw [ef]
    walk_at "vc"
    have x1 : Ex H (upd (upd H l (.lst ((aftA r.w r.low p cap).map V.int))) l2 (.lst (((aftA r.w r.low p cap).filter fun o => !decide (o = v)).map V.int))) := by walk_at "G:ex"
    generalize hH : upd (upd H l (.lst ((aftA r.w r.low p cap).map V.int))) l2 (.lst (((aftA r.w r.low p cap).filter fun o => !decide (o = v)).map V.int)) = H2 at x1 ⊢
    refine ⟨a, dx, _, _, rfl, x1 _ _ h1, rfl, ?_⟩
    walk_at "vc"
    refine ⟨l2, _, rfl, .of (by rw [← hH]; exact upd_same), fun t1 nt1 => ?_⟩
    refine ⟨Nat.le_of_ble_eq_true rfl, fun t2 nt2 => fg.i ?_⟩
    have x2 : Ex H (upd (upd H2 t1 (.tup (((aftA r.w r.low p cap).filter fun o => !decide (o = v)).map V.int))) t2 (.tup [.int r.mark, .int b, .ref t1])) := by walk_at "G:ex"
    exact q t2 t1 _ x2 ((x1.trans (Ex.put nt1)).free nt2) upd_same (hp_ne nt2 upd_same)
theorem Queue_drop_of_ok (T : All K mg) {a kl cl : Addr} {q : Qst} {v : Int} {H : Hp} {Q : VK} {E : XK} (h : QAt T.Queue H a kl cl q) (ok : QOk q) (hv : 0 ≤ v) (hb : Big v)
    (kn : q.dropOf v = none → ∀ H', Ex H H' → Q .non H') (ks : ∀ d, q.dropOf v = some d → ∀ t r2 H', Ex H H' → H t = none → H' t = some (.tup [.int d.1, .int d.2.1, .ref r2]) → H' r2 = some (.tup (d.2.2.map V.int)) → Q (.ref t) H') : sp_Queue_drop_of T [.ref a, .int v] H Q E := by
  obtain ⟨⟨dx, h1⟩, h2, cs, h3, h4⟩ := h
  unfold Qst.dropOf at kn ks
  have f0 := ok.f0
  have f1 := ok.f1
  have c9 := ok.c9
  have hcs := ok.cs
  unfold sp_Queue_drop_of
  refine ⟨rfl, ?_⟩
  walk_at "vc"
  refine want_version_int T hv ?_
  walk_at "vc"
  refine ⟨a, dx, _, _, rfl, h1, rfl, ?_⟩
  walk_at "vc"
  refine ⟨Nat.le_of_ble_eq_true rfl, fun wl nwl => ?_⟩
  refine ⟨Nat.le_of_ble_eq_true rfl, fun t nt => ?_⟩
  refine ⟨t, _, rfl, .inl (.of upd_same), rfl, ?_⟩
  walk_at "vc"
  have x0 : Ex H (upd (upd H wl (.lst [])) t (.tup [.int (q.first - 1), .ref wl])) := (Ex.put nwl).trans (Ex.put nt)
  have hwl0 : upd (upd H wl (.lst [])) t (.tup [.int (q.first - 1), .ref wl]) wl = some (.lst []) := hp_ne nt upd_same
  generalize upd (upd H wl (.lst [])) t (.tup [.int (q.first - 1), .ref wl]) = H0 at x0 hwl0 ⊢
  refine ⟨rfl, a, dx, _, _, rfl, x0 _ _ h1, rfl, cl, _, rfl, .of (x0 _ _ h3), ?_⟩
  have elen : (cs.map V.ref).length = q.calls.length := by rw [List.length_map, h4.1]
  refine forB (fun i σ' H' => ∃ (m b : Int) (w : List Int) (wl : Addr) (z4 z5 z6 : Option V), σ' = [some (.ref a), some (.int v), some (.int m), some (.ref wl), z4, z5, z6] ∧ Ex H H' ∧ H' wl = some (.lst (w.map V.int)) ∧ -1 ≤ m ∧ Big m ∧ -1 ≤ b ∧ Btw 0 b w ∧ w.length ≤ q.size ∧ callsOk b (q.calls.drop i) ∧ dropRun q.size v m w (q.calls.drop i) = dropRun q.size v (q.first - 1) [] q.calls)
    ⟨q.first - 1, q.first - 1, [], wl, none, none, none, rfl, x0, hwl0, by omega, by unfold Big at *; omega, by omega, (fun v hv => nomatch hv), Nat.zero_le _, hcs, rfl⟩ (fun i σ' H' _ h => .of (h.choose_spec.choose_spec.choose_spec.choose_spec.choose_spec.choose_spec.choose_spec.2.1 _ _ h3)) (fun i σ' H' hi h => ?_) fun σ' H' h => ?_
  · obtain ⟨m, b, w, wl, z4, z5, z6, rfl, x1, hw, m0, m1, b0, wb, wlen, co, dr⟩ := h
    rw [elen] at hi
    have ed : q.calls.drop i = q.calls[i] :: q.calls.drop (i + 1) := List.drop_eq_getElem_cons hi
    rw [ed] at co dr
    intro x hx
    rw [List.getElem?_map] at hx
    obtain ⟨c, hc, rfl⟩ : ∃ c, cs[i]? = some c ∧ x = .ref c := by
      cases e : cs[i]? with
      | none => rw [e] at hx; cases hx
      | some c => rw [e] at hx; cases hx; exact ⟨c, rfl, rfl⟩
    have htp := x1 _ _ (h4.2 i c _ hc (List.getElem?_eq_getElem hi))
    generalize q.calls[i] = cc at co dr htp
    obtain ⟨l, o⟩ := cc
    walk_at "vc"
    refine ⟨c, _, rfl, .of htp, ?_⟩
    walk_at "vc"
    cases o with
    | none =>
      refine ⟨fun _ => ?_, (fun z => nomatch z)⟩
      obtain ⟨l0, l1, co⟩ := co
      walk_at "vc"
      refine ⟨c, _, 0, .int l, rfl, rfl, .of htp, rfl, ?_⟩
      walk_at "vc"
      refine ⟨wl, _, rfl, .of hw, ?_⟩
      refine lc_fm (fun o => decide (num o > l)) id (by rw [List.length_map]; omega) (.of hw) (fun i x d acc R hx nd k => ?_) (fun i x d acc H4 R hx hf nd x4 k => ?_) fun w2 nw2 => ?_
      · obtain ⟨y, hy, rfl⟩ := List.mem_map.mp (List.mem_of_getElem? hx)
        walk_at "vc"
        exact k _ (Ex.refl _)
      · walk_at "vc"
        exact k _ x4
      have ef : ((w.map V.int).filter fun o => decide (num o > l)).map id = (w.filter fun o => decide (o > l)).map V.int := by
        rw [List.map_id, List.filter_map]
        rfl
      rw [ef]
      refine fg.i ⟨l, b, w.filter fun o => decide (o > l), w2, _, _, _, rfl, x1.trans (Ex.put nw2), upd_same, by omega, l1, b0, fun x hx => wb x (List.mem_filter.mp hx).1, Nat.le_trans (List.length_filter_le _ _) wlen, co, dr⟩
    | some hh =>
      refine ⟨(fun z => nomatch z), fun _ => ?_⟩
      obtain ⟨bl, lh, hh1, co⟩ := co
      have wok : WOk w (mx l (m + 1)) q.size := by
        have := mx_le l (m + 1)
        exact ⟨ok.c2, ok.c9, wlen, by omega, wb.mono (Int.le_refl 0) (by omega)⟩
      walk_at "vc"
      refine ⟨c, _, 0, .int l, rfl, rfl, .of htp, rfl, c, _, 1, .int hh, rfl, rfl, .of htp, rfl, ?_⟩
      intro x2 dx2 nx ndx ne
      refine Arrivals_init_ok T upd_same ⟨rfl, ?_⟩
      rw [upd_upd]
      have x3 : Ex H' (upd (upd H' dx2 (.own x2)) x2 (.ins T.Arrivals dx2 [("mark", .int m), ("waited", .ref wl), ("low", .int (mx l (m + 1))), ("high", .int hh)])) := (Ex.put ndx).trans (Ex.put (by rw [upd_ne ne.symm]; exact nx))
      have har : ArAt T.Arrivals (upd (upd H' dx2 (.own x2)) x2 (.ins T.Arrivals dx2 [("mark", .int m), ("waited", .ref wl), ("low", .int (mx l (m + 1))), ("high", .int hh)])) x2 wl ⟨m, w, mx l (m + 1), hh⟩ := ⟨⟨dx2, upd_same⟩, x3 _ _ hw⟩
      generalize upd (upd H' dx2 (.own x2)) x2 (.ins T.Arrivals dx2 [("mark", .int m), ("waited", .ref wl), ("low", .int (mx l (m + 1))), ("high", .int hh)]) = H1 at x3 har ⊢
      obtain ⟨⟨dx2, ha2⟩, hw2⟩ := id har
      have x4 := x1.trans x3
      walk_at "vc"
      refine ⟨x2, dx2, _, rfl, ha2, rfl, ?_⟩
      walk_at "vc"
      refine ⟨c, _, 1, .int hh, rfl, rfl, .of (x3 _ _ htp), rfl, ?_⟩
      refine ⟨a, dx, _, _, rfl, x4 _ _ h1, rfl, ?_⟩
      refine Arrivals_after_ok T har wok hh1 fun w2 nw2 => ?_
      have x5 : Ex H1 (upd H1 w2 (.lst ((aftA w (mx l (m + 1)) hh q.size).map V.int))) := Ex.put nw2
      have hw5 : upd H1 w2 (.lst ((aftA w (mx l (m + 1)) hh q.size).map V.int)) w2 = some (.lst ((aftA w (mx l (m + 1)) hh q.size).map V.int)) := upd_same
      show zIf _ _ _ _ _ _ (upd H1 w2 (.lst ((aftA w (mx l (m + 1)) hh q.size).map V.int)))
      generalize upd H1 w2 (.lst ((aftA w (mx l (m + 1)) hh q.size).map V.int)) = H2 at x5 hw5 ⊢
      have har2 : ArAt T.Arrivals H2 x2 wl ⟨m, w, mx l (m + 1), hh⟩ := ⟨⟨dx2, x5 _ _ ha2⟩, x5 _ _ hw2⟩
      have x6 := x4.trans x5
      walk_at "vc"
      refine ⟨x2, dx2, _, rfl, x5 _ _ ha2, rfl, ?_⟩
      have nxt : (holdsA ⟨m, w, mx l (m + 1), hh⟩ v && !decide (v ∈ aftA w (mx l (m + 1)) hh q.size)) = false → fg (fun H' => ∃ (m' b : Int) (w : List Int) (wl : Addr) (y4 y5 y6 : Option V), [some (.ref a), some (.int v), some (.int m), some (.ref w2), some (.ref c), z5, some (.ref x2)] = [some (.ref a), some (.int v), some (.int m'), some (.ref wl), y4, y5, y6] ∧ Ex H H' ∧ H' wl = some (.lst (w.map V.int)) ∧ -1 ≤ m' ∧ Big m' ∧ -1 ≤ b ∧ Btw 0 b w ∧ w.length ≤ q.size ∧ callsOk b (q.calls.drop (i + 1)) ∧ dropRun q.size v m' w (q.calls.drop (i + 1)) = dropRun q.size v (q.first - 1) [] q.calls) H2 := fun z =>
        fg.i ⟨m, hh, _, w2, _, _, _, rfl, x6, hw5, m0, m1, by omega, aftA_btw wok wb (by omega), aftA_len wok, co, by
          rw [← dr]
          show _ = if (holdsA ⟨m, w, mx l (m + 1), hh⟩ v && !decide (v ∈ aftA w (mx l (m + 1)) hh q.size)) = true then some (dropA ⟨m, w, mx l (m + 1), hh⟩ q.size v) else dropRun q.size v m (aftA w (mx l (m + 1)) hh q.size) (q.calls.drop (i + 1))
          rw [if_neg (by rw [z]; decide)]⟩
      refine Arrivals_does_hold_ok T har2 ?_
      walk_at "vc"
      refine ⟨fun z1 => ?_, fun z1 => ⟨(fun z => nomatch z), fun _ => nxt (by rw [z1]; rfl)⟩⟩
      walk_at "vc"
      refine ⟨w2, _, rfl, .of hw5, rfl, flat_ints _, ?_⟩
      rw [inV_int]
      refine ⟨fun z2 => ?_, fun z2 => nxt (by rw [z1, z2]; rfl)⟩
      walk_at "vc"
      refine ⟨x2, dx2, _, rfl, x5 _ _ ha2, rfl, ?_⟩
      walk_at "vc"
      refine ⟨a, dx, _, _, rfl, x6 _ _ h1, rfl, ?_⟩
      have hlo : Big (mx l (m + 1) - 1) := by
        unfold mx
        unfold Big at *
        split <;> omega
      refine Arrivals_drop_ok T har2 wok hh1 hb hlo fun t r2 H3 y1 nt e1 e2 => fg.i (ks (dropA ⟨m, w, mx l (m + 1), hh⟩ q.size v) ?_ t r2 H3 (x6.trans y1) (x6.free nt) e1 e2)
      rw [← dr]
      show (if (holdsA ⟨m, w, mx l (m + 1), hh⟩ v && !decide (v ∈ aftA w (mx l (m + 1)) hh q.size)) = true then some (dropA ⟨m, w, mx l (m + 1), hh⟩ q.size v) else dropRun q.size v m (aftA w (mx l (m + 1)) hh q.size) (q.calls.drop (i + 1))) = _
      rw [if_pos (by rw [z1, z2]; rfl)]
  · obtain ⟨m, b, w, wl, z4, z5, z6, rfl, x1, hw, m0, m1, b0, wb, wlen, co, dr⟩ := h
    rw [elen, List.drop_length] at dr
    exact fg.i (kn dr.symm _ x1)
theorem Queue_lag_ok (T : All K mg) {a kl cl : Addr} {q : Qst} {H : Hp} {Q : VK} {E : XK} (h : QAt T.Queue H a kl cl q) (k : Q (.int q.lag) H) : sp_Queue_lag T [.ref a] H Q E := by
  obtain ⟨⟨dx, h1⟩, _⟩ := h
  unfold Qst.lag at k
  unfold sp_Queue_lag
  refine ⟨rfl, ?_⟩
  walk_at "vc"
  refine ⟨a, dx, _, _, rfl, h1, rfl, ?_⟩
  walk_at "vc"
  cases hl : q.latest with
  | none =>
    rw [hl] at k
    refine ⟨rfl, fun _ => ?_, (fun z => nomatch z)⟩
    exact fg.i k
  | some l =>
    rw [hl] at k
    refine ⟨rfl, (fun z => nomatch z), fun _ => ?_⟩
    walk_at "vc"
    refine ⟨a, dx, _, _, rfl, h1, rfl, ?_⟩
    rw [hl]
    walk_at "vc"
    exact ⟨a, dx, _, _, rfl, h1, rfl, fg.i k⟩
theorem Queue_greatest_lag_ok (T : All K mg) {a kl cl : Addr} {q : Qst} {H : Hp} {Q : VK} {E : XK} (h : QAt T.Queue H a kl cl q) (k : Q (.int q.most) H) : sp_Queue_greatest_lag T [.ref a] H Q E := by
  obtain ⟨⟨dx, h1⟩, _⟩ := h
  unfold sp_Queue_greatest_lag
  refine ⟨rfl, ?_⟩
  walk_at "vc"
  exact ⟨a, dx, _, _, rfl, h1, rfl, fg.i k⟩
theorem Queue_arrival_bound_ok (T : All K mg) {a kl cl : Addr} {q : Qst} {H : Hp} {Q : VK} {E : XK} (h : QAt T.Queue H a kl cl q) (k : Q (.int q.bound) H) : sp_Queue_arrival_bound T [.ref a] H Q E := by
  obtain ⟨⟨dx, h1⟩, _⟩ := h
  unfold Qst.bound at k
  unfold sp_Queue_arrival_bound
  refine ⟨rfl, ?_⟩
  walk_at "vc"
  refine ⟨a, dx, _, _, rfl, h1, rfl, ?_⟩
  walk_at "vc"
  cases hl : q.latest with
  | none =>
    rw [hl] at k
    refine ⟨rfl, fun _ => ?_, (fun z => nomatch z)⟩
    walk_at "vc"
    exact ⟨a, dx, _, _, rfl, h1, rfl, fg.i k⟩
  | some l =>
    rw [hl] at k
    refine ⟨rfl, (fun z => nomatch z), fun _ => ?_⟩
    walk_at "vc"
    refine ⟨a, dx, _, _, rfl, h1, rfl, fg.i ?_⟩
    rw [hl]
    exact k
theorem Queue_arrive_ok (T : All K mg) {a kl cl : Addr} {q : Qst} {lo hi : Int} {H : Hp} {Q : VK} {E : XK} (h : QAt T.Queue H a kl cl q) (ok : QOk q) (hlo : q.bound < lo) (hl : lo ≤ hi) (hb : Big hi) (hc : q.calls.length < 100000) (nk : kl ≠ cl)
    (k : ∀ kl2 H', Fr [a, cl] H H' → H kl2 = none → QAt T.Queue H' a kl2 cl (q.arrive lo hi) → Q .non H') : sp_Queue_arrive T [.ref a, .int lo, .int hi] H Q E := by
  have h0 := h
  obtain ⟨⟨dx, h1⟩, h2, cs, h3, h4⟩ := h
  have wok := ok.wok hlo
  unfold sp_Queue_arrive
  refine ⟨rfl, ?_⟩
  walk_at "vc"
  refine ⟨a, dx, _, rfl, h1, rfl, ?_⟩
  refine Queue_arrival_bound_ok T h0 ?_
  walk_at "vc"
  refine ⟨fun z => absurd (of_decide_eq_true z) (by omega), fun _ => ?_⟩
  walk_at "vc"
  refine ⟨a, dx, _, _, rfl, h1, rfl, a, dx, _, _, rfl, h1, rfl, ?_⟩
  walk_at "vc"
  intro x2 dx2 nx ndx ne
  refine Arrivals_init_ok T upd_same ⟨rfl, ?_⟩
  rw [upd_upd]
  have x0 : Ex H (upd (upd H dx2 (.own x2)) x2 (.ins T.Arrivals dx2 [("mark", .int q.mark), ("waited", .ref kl), ("low", .int (mx lo (q.mark + 1))), ("high", .int hi)])) := (Ex.put ndx).trans (Ex.put (by rw [upd_ne ne.symm]; exact nx))
  have har : ArAt T.Arrivals (upd (upd H dx2 (.own x2)) x2 (.ins T.Arrivals dx2 [("mark", .int q.mark), ("waited", .ref kl), ("low", .int (mx lo (q.mark + 1))), ("high", .int hi)])) x2 kl (q.arr lo hi) := ⟨⟨dx2, upd_same⟩, x0 _ _ h2⟩
  generalize upd (upd H dx2 (.own x2)) x2 (.ins T.Arrivals dx2 [("mark", .int q.mark), ("waited", .ref kl), ("low", .int (mx lo (q.mark + 1))), ("high", .int hi)]) = H1 at x0 har ⊢
  obtain ⟨⟨dx2, ha2⟩, hw2⟩ := id har
  refine ⟨x2, dx2, _, rfl, ha2, rfl, ?_⟩
  walk_at "vc"
  refine ⟨a, dx, _, _, rfl, x0 _ _ h1, rfl, ?_⟩
  refine Arrivals_after_ok T har wok hb fun kl2 nkl2 => ?_
  have x3 := x0.trans (Ex.put (o := .lst ((aftA q.kept (mx lo (q.mark + 1)) hi q.size).map V.int)) nkl2)
  have nkl0 : H kl2 = none := x0.free nkl2
  have hk2 : upd H1 kl2 (.lst ((aftA q.kept (mx lo (q.mark + 1)) hi q.size).map V.int)) kl2 = some (.lst ((aftA q.kept (mx lo (q.mark + 1)) hi q.size).map V.int)) := upd_same
  show rVar 0 _ (upd H1 kl2 (.lst ((aftA q.kept (mx lo (q.mark + 1)) hi q.size).map V.int))) _ _
  generalize upd H1 kl2 (.lst ((aftA q.kept (mx lo (q.mark + 1)) hi q.size).map V.int)) = H2 at x3 hk2 ⊢
  clear har x0 nkl2
  have ma : a ∈ [a, cl] := by simp
  refine ⟨a, dx, _, rfl, x3 _ _ h1, Nat.le_of_ble_eq_true rfl, ?_⟩
  have A1 := (h0.ex x3).set (dx := dx) (q2 := { q with kept := aftA q.kept (mx lo (q.mark + 1)) hi q.size }) (kl2 := kl2) rfl hk2 rfl
  have F1 : Fr [a, cl] H (upd H2 a (.ins T.Queue dx (fsQ { q with kept := aftA q.kept (mx lo (q.mark + 1)) hi q.size } kl2 cl))) := (Fr.of_ex x3).upd (.inl ma)
  show zCons _ _ _ _ _ (upd H2 a (.ins T.Queue dx (fsQ { q with kept := aftA q.kept (mx lo (q.mark + 1)) hi q.size } kl2 cl)))
  generalize upd H2 a (.ins T.Queue dx (fsQ { q with kept := aftA q.kept (mx lo (q.mark + 1)) hi q.size } kl2 cl)) = H3 at A1 F1 ⊢
  obtain ⟨dx3, i3⟩ := A1.ins
  walk_at "vc"
  refine ⟨a, dx3, _, rfl, i3, Nat.le_of_ble_eq_true rfl, ?_⟩
  have A2 := A1.set (dx := dx3) (q2 := { q with kept := aftA q.kept (mx lo (q.mark + 1)) hi q.size, latest := some hi }) (kl2 := kl2) rfl A1.kept rfl
  have F2 : Fr [a, cl] H (upd H3 a (.ins T.Queue dx3 (fsQ { q with kept := aftA q.kept (mx lo (q.mark + 1)) hi q.size, latest := some hi } kl2 cl))) := F1.upd (.inl ma)
  show zCons _ _ _ _ _ (upd H3 a (.ins T.Queue dx3 (fsQ { q with kept := aftA q.kept (mx lo (q.mark + 1)) hi q.size, latest := some hi } kl2 cl)))
  generalize upd H3 a (.ins T.Queue dx3 (fsQ { q with kept := aftA q.kept (mx lo (q.mark + 1)) hi q.size, latest := some hi } kl2 cl)) = H4 at A2 F2 ⊢
  obtain ⟨dx4, i4⟩ := A2.ins
  walk_at "vc"
  refine ⟨a, dx4, _, _, rfl, i4, rfl, ?_⟩
  walk_at "vc"
  refine ⟨a, dx4, _, rfl, i4, rfl, ?_⟩
  refine Queue_lag_ok T A2 ?_
  walk_at "vc"
  refine ⟨a, dx4, _, rfl, i4, Nat.le_of_ble_eq_true rfl, ?_⟩
  have A3 := A2.set (dx := dx4) (q2 := { q with kept := aftA q.kept (mx lo (q.mark + 1)) hi q.size, latest := some hi, most := mx q.most (mx 0 (hi - q.mark)) }) (kl2 := kl2) rfl A2.kept rfl
  have F3 : Fr [a, cl] H (upd H4 a (.ins T.Queue dx4 (fsQ { q with kept := aftA q.kept (mx lo (q.mark + 1)) hi q.size, latest := some hi, most := mx q.most (mx 0 (hi - q.mark)) } kl2 cl))) := F2.upd (.inl ma)
  show zExpr _ _ _ _ (upd H4 a (.ins T.Queue dx4 (fsQ { q with kept := aftA q.kept (mx lo (q.mark + 1)) hi q.size, latest := some hi, most := mx q.most (mx 0 (hi - q.mark)) } kl2 cl)))
  generalize upd H4 a (.ins T.Queue dx4 (fsQ { q with kept := aftA q.kept (mx lo (q.mark + 1)) hi q.size, latest := some hi, most := mx q.most (mx 0 (hi - q.mark)) } kl2 cl)) = H5 at A3 F3 ⊢
  obtain ⟨⟨dx5, i5⟩, k5, cs5, c5, d5⟩ := id A3
  walk_at "vc"
  refine ⟨a, dx5, _, _, rfl, i5, rfl, .inl ⟨rfl, _, .of c5⟩, ?_⟩
  walk_at "vc"
  refine ⟨Nat.le_of_ble_eq_true rfl, fun t nt => ?_⟩
  have ncl : cl ≠ t := ne_of_none c5 nt
  have nkc : kl2 ≠ cl := fun e => by subst e; rw [h3] at nkl0; cases nkl0
  refine ⟨cl, _, _, rfl, rfl, by rw [upd_ne ncl]; exact c5, by rw [List.length_map, d5.1]; show q.calls.length ≤ 100000; omega, fg.i ?_⟩
  refine k kl2 _ ((F3.upd (.inr nt)).upd (.inl (by simp))) nkl0 ?_
  exact (A3.ex (Ex.put nt)).call (c := (lo, some hi)) upd_same nkc cs5 (by rw [upd_ne ncl]; exact c5) ⟨d5.1, fun i c k e1 e2 => Ex.put nt _ _ (d5.2 i c k e1 e2)⟩
theorem Queue_push_range_ok (T : All K mg) {a kl cl : Addr} {q : Qst} {lo hi : Int} {H : Hp} {Q : VK} {E : XK} (h : QAt T.Queue H a kl cl q) (ok : QOk q) (hlo : q.bound < lo) (hl : lo ≤ hi) (hb : Big hi) (hc : q.calls.length < 100000) (nk : kl ≠ cl)
    (k : ∀ kl2 H', Fr [a, cl] H H' → H kl2 = none → QAt T.Queue H' a kl2 cl (q.arrive lo hi) → Q .non H') : sp_Queue_push_range T [.ref a, .int lo, .int hi] H Q E := by
  have h0 := h
  obtain ⟨⟨dx, h1⟩, _⟩ := h
  have b0 := ok.b0
  have f0 := ok.f0
  unfold sp_Queue_push_range
  refine ⟨rfl, ?_⟩
  walk_at "vc"
  refine want_version_int T (by omega) ?_
  walk_at "vc"
  refine want_version_int T (by omega) ?_
  walk_at "vc"
  refine ⟨fun z => absurd (of_decide_eq_true z) (by omega), fun _ => ?_⟩
  walk_at "vc"
  refine ⟨a, dx, _, rfl, h1, rfl, ?_⟩
  exact Queue_arrive_ok T h0 ok hlo hl hb hc nk fun kl2 H' f n2 A => fg.i (k kl2 H' f n2 A)
theorem Queue_arrived_ok (T : All K mg) {a kl cl : Addr} {q : Qst} {v : Int} {H : Hp} {Q : VK} {E : XK} (h : QAt T.Queue H a kl cl q) (hl : q.calls.length < 100000) (hv : 0 ≤ v) (k : Q (.bl (q.arrived v)) H) : sp_Queue_arrived T [.ref a, .int v] H Q E := by
  obtain ⟨⟨dx, h1⟩, h2, cs, h3, h4⟩ := h
  unfold sp_Queue_arrived
  refine ⟨rfl, ?_⟩
  walk_at "vc"
  refine want_version_int T hv ?_
  walk_at "vc"
  refine ⟨a, dx, _, _, rfl, h1, rfl, cl, _, rfl, .of h3, ?_⟩
  have at_ : ∀ (i : Nat) x, (cs.map V.ref)[i]? = some x → ∃ c k, x = .ref c ∧ q.calls[i]? = some k ∧ H c = some (.tup (callV k)) := fun i x hx => by
    rw [List.getElem?_map] at hx
    cases e : cs[i]? with
    | none => rw [e] at hx; cases hx
    | some c =>
      rw [e] at hx
      cases hx
      have hi : i < q.calls.length := by rw [← h4.1]; exact (List.getElem?_eq_some_iff.mp e).1
      exact ⟨c, q.calls[i], rfl, List.getElem?_eq_getElem hi, h4.2 i c _ e (List.getElem?_eq_getElem hi)⟩
  refine lc_fi (fun i => callT q.calls[i]?) (fun i => .bl (callB v q.calls[i]?)) (by rw [List.length_map, h4.1]; exact hl) (.of h3) (fun i x d acc R hx nd kk => ?_) (fun i x d acc H4 R hx hf nd x4 kk => ?_) fun p np => ?_
  · obtain ⟨c, k, rfl, e, hc⟩ := at_ i x hx
    rw [e] at kk
    walk_at "vc"
    refine ⟨c, _, rfl, .of (Ex.put nd _ _ hc), ?_⟩
    walk_at "vc"
    obtain ⟨l, o⟩ := k
    cases o <;> exact kk _ (Ex.refl _)
  · obtain ⟨c, k, rfl, e, hc⟩ := at_ i x hx
    rw [e] at kk hf
    obtain ⟨l, o⟩ := k
    cases o with
    | none => cases hf
    | some h =>
      have hc4 := x4 _ _ (Ex.put nd _ _ hc)
      walk_at "vc"
      refine ⟨c, _, 0, .int l, rfl, rfl, .of hc4, rfl, ?_⟩
      walk_at "vc"
      refine ⟨fun z => ?_, fun z => ?_⟩
      · walk_at "vc"
        refine ⟨c, _, 1, .int h, rfl, rfl, .of hc4, rfl, ?_⟩
        walk_at "vc"
        have kk := kk _ x4
        rw [show callB v (some (l, some h)) = decide (v ≤ h) by show (decide (l ≤ v) && decide (v ≤ h)) = _; rw [z]; rfl] at kk
        exact kk
      · have kk := kk _ x4
        rw [show callB v (some (l, some h)) = false by show (decide (l ≤ v) && decide (v ≤ h)) = _; rw [z]; rfl] at kk
        exact kk
  · walk_at "vc"
    refine ⟨p, ((List.range q.calls.length).filter fun i => callT q.calls[i]?).map fun i => callB v q.calls[i]?, rfl, .of ?_, ?_⟩
    · rw [upd_same, List.length_map, h4.1, List.map_map]
      rfl
    · rw [any_calls]
      exact ⟨H, Ex.put np, k⟩

theorem eqv_nil (xs : List Int) : (!PyData.eqv (.list (xs.map PyData.int)) (.list [])) = !xs.isEmpty := by
  cases xs <;> rfl
theorem Queue_push_ok (T : All K mg) {a kl cl : Addr} {q : Qst} {v : Int} {H : Hp} {Q : VK} {E : XK} (h : QAt T.Queue H a kl cl q) (ok : QOk q) (hlo : q.bound < v) (hb : Big v) (hc : q.calls.length < 100000) (nk : kl ≠ cl)
    (k : ∀ kl2 H', Fr [a, cl] H H' → H kl2 = none → QAt T.Queue H' a kl2 cl (q.arrive v v) → Q (optV (q.pushed v)) H') : sp_Queue_push T [.ref a, .int v] H Q E := by
  have h0 := h
  obtain ⟨⟨dx, h1⟩, h2, cs, h3, h4⟩ := h
  have b0 := ok.b0
  have f0 := ok.f0
  unfold sp_Queue_push
  refine ⟨rfl, ?_⟩
  walk_at "vc"
  refine want_version_int T (by omega) ?_
  walk_at "vc"
  refine ⟨a, dx, _, _, rfl, h1, rfl, kl, _, rfl, .of h2, fun w nw => ?_⟩
  have x1 : Ex H (upd H w (.lst (q.kept.map V.int))) := Ex.put nw
  walk_at "vc"
  refine ⟨a, dx, _, rfl, x1 _ _ h1, rfl, ?_⟩
  refine Queue_arrive_ok T (h0.ex x1) ok hlo (Int.le_refl _) hb hc nk fun kl2 H2 f2 n2 A => ?_
  have nkl : H kl2 = none := x1.free n2
  have F : Fr [a, cl] H H2 := (Fr.of_ex x1).trans f2
  have ew : H2 w = some (.lst (q.kept.map V.int)) := f2 _ _ (by
    simp
    exact ⟨(ne_of_none h1 nw).symm, (ne_of_none h3 nw).symm⟩) upd_same
  obtain ⟨⟨dx2, i2⟩, k2, _⟩ := id A
  have nw0 := nw
  generalize upd H w (.lst (q.kept.map V.int)) = H1 at x1 n2 f2
  walk_at "vc"
  refine ⟨w, _, rfl, .of ew, ?_⟩
  refine lc_fm (fun o => !decide (num o ∈ (q.arrive v v).kept)) id (by rw [List.length_map]; have := ok.klen; have := ok.c9; omega) (.of ew) (fun i x d acc R hx nd k => ?_) (fun i x d acc H4 R hx hf nd x4 k => ?_) fun l nl => ?_
  · obtain ⟨y, hy, rfl⟩ := List.mem_map.mp (List.mem_of_getElem? hx)
    walk_at "vc"
    refine ⟨a, dx2, _, _, rfl, Ex.put nd _ _ i2, rfl, kl2, _, rfl, .of (Ex.put nd _ _ k2), rfl, flat_ints _, ?_⟩
    rw [inV_int]
    exact k _ (Ex.refl _)
  · walk_at "vc"
    exact k _ x4
  have ef : ((q.kept.map V.int).filter fun o => !decide (num o ∈ (q.arrive v v).kept)).map id = (q.gone v).map V.int := by
    rw [List.map_id, List.filter_map]
    rfl
  rw [ef]
  walk_at "vc"
  refine ⟨Nat.le_of_ble_eq_true rfl, fun l2 nl2 => ?_⟩
  have x3 : Ex H2 (upd (upd H2 l (.lst ((q.gone v).map V.int))) l2 (.lst [])) := (Ex.put nl).trans (Ex.put nl2)
  refine ⟨.list ((q.gone v).map PyData.int), .list [], .lst (.of (hp_ne nl2 upd_same)) (dp_ints _), .lst (.of upd_same) .nil, shaped_li _, rfl, ?_⟩
  have hl : upd (upd H2 l (.lst ((q.gone v).map V.int))) l2 (.lst []) l = some (.lst ((q.gone v).map V.int)) := hp_ne nl2 upd_same
  rw [eqv_nil]
  have kk := k kl2 _ (F.trans (.of_ex x3)) nkl (A.ex x3)
  generalize upd (upd H2 l (.lst ((q.gone v).map V.int))) l2 (.lst []) = H3 at hl kk x3 ⊢
  unfold Qst.pushed at kk
  cases hg : q.gone v with
  | nil =>
    rw [hg] at kk
    exact ⟨(fun z => nomatch z), fun _ => fg.i kk⟩
  | cons y r =>
    rw [hg] at kk hl
    refine ⟨fun _ => ?_, (fun z => nomatch z)⟩
    walk_at "vc"
    exact ⟨l, _, 0, .int y, rfl, rfl, .of hl, by simp [atI, ixN], fg.i kk⟩
theorem Queue_advance_ok (T : All K mg) {a kl cl : Addr} {q : Qst} {v : Int} {H : Hp} {Q : VK} {E : XK} (h : QAt T.Queue H a kl cl q) (ok : QOk q) (hm : q.mark < v) (hb : Big v) (hc : q.calls.length < 100000) (nk : kl ≠ cl)
    (k : ∀ kl2 H', Fr [a, cl] H H' → H kl2 = none → QAt T.Queue H' a kl2 cl (q.advance v) → Q .non H') : sp_Queue_advance T [.ref a, .int v] H Q E := by
  have h0 := h
  obtain ⟨⟨dx, h1⟩, h2, cs, h3, h4⟩ := h
  have m0 := ok.m0
  have ma : a ∈ [a, cl] := by simp
  unfold sp_Queue_advance
  refine ⟨rfl, ?_⟩
  walk_at "vc"
  refine want_version_int T (by omega) ?_
  walk_at "vc"
  refine ⟨a, dx, _, _, rfl, h1, rfl, ?_⟩
  walk_at "vc"
  refine ⟨fun z => absurd (of_decide_eq_true z) (by omega), fun _ => ?_⟩
  walk_at "vc"
  refine ⟨a, dx, _, _, rfl, h1, rfl, kl, _, rfl, .of h2, ?_⟩
  refine lc_fm (fun o => decide (num o > v)) id (by rw [List.length_map]; have := ok.klen; have := ok.c9; omega) (.of h2) (fun i x d acc R hx nd k => ?_) (fun i x d acc H4 R hx hf nd x4 k => ?_) fun kl2 nl2 => ?_
  · obtain ⟨y, hy, rfl⟩ := List.mem_map.mp (List.mem_of_getElem? hx)
    walk_at "vc"
    exact k _ (Ex.refl _)
  · walk_at "vc"
    exact k _ x4
  have ef : ((q.kept.map V.int).filter fun o => decide (num o > v)).map id = (q.kept.filter fun o => decide (o > v)).map V.int := by
    rw [List.map_id, List.filter_map]
    rfl
  rw [ef]
  have x3 : Ex H (upd H kl2 (.lst ((q.kept.filter fun o => decide (o > v)).map V.int))) := Ex.put nl2
  have hk2 : upd H kl2 (.lst ((q.kept.filter fun o => decide (o > v)).map V.int)) kl2 = some (.lst ((q.kept.filter fun o => decide (o > v)).map V.int)) := upd_same
  generalize upd H kl2 (.lst ((q.kept.filter fun o => decide (o > v)).map V.int)) = H2 at x3 hk2 ⊢
  walk_at "vc"
  refine ⟨a, dx, _, rfl, x3 _ _ h1, Nat.le_of_ble_eq_true rfl, ?_⟩
  have A1 := (h0.ex x3).set (dx := dx) (q2 := { q with kept := q.kept.filter fun o => decide (o > v) }) (kl2 := kl2) rfl hk2 rfl
  have F1 : Fr [a, cl] H (upd H2 a (.ins T.Queue dx (fsQ { q with kept := q.kept.filter fun o => decide (o > v) } kl2 cl))) := (Fr.of_ex x3).upd (.inl ma)
  show zCons _ _ _ _ _ (upd H2 a (.ins T.Queue dx (fsQ { q with kept := q.kept.filter fun o => decide (o > v) } kl2 cl)))
  generalize upd H2 a (.ins T.Queue dx (fsQ { q with kept := q.kept.filter fun o => decide (o > v) } kl2 cl)) = H3 at A1 F1 ⊢
  obtain ⟨dx3, i3⟩ := A1.ins
  walk_at "vc"
  refine ⟨a, dx3, _, rfl, i3, Nat.le_of_ble_eq_true rfl, ?_⟩
  have A3 := A1.set (dx := dx3) (q2 := { q with kept := q.kept.filter fun o => decide (o > v), mark := v }) (kl2 := kl2) rfl A1.kept rfl
  have F3 : Fr [a, cl] H (upd H3 a (.ins T.Queue dx3 (fsQ { q with kept := q.kept.filter fun o => decide (o > v), mark := v } kl2 cl))) := F1.upd (.inl ma)
  show zExpr _ _ _ _ (upd H3 a (.ins T.Queue dx3 (fsQ { q with kept := q.kept.filter fun o => decide (o > v), mark := v } kl2 cl)))
  generalize upd H3 a (.ins T.Queue dx3 (fsQ { q with kept := q.kept.filter fun o => decide (o > v), mark := v } kl2 cl)) = H5 at A3 F3 ⊢
  obtain ⟨⟨dx5, i5⟩, k5, cs5, c5, d5⟩ := id A3
  walk_at "vc"
  refine ⟨a, dx5, _, _, rfl, i5, rfl, .inl ⟨rfl, _, .of c5⟩, ?_⟩
  walk_at "vc"
  refine ⟨Nat.le_of_ble_eq_true rfl, fun t nt => ?_⟩
  have ncl : cl ≠ t := ne_of_none c5 nt
  have nkc : kl2 ≠ cl := fun e => by subst e; rw [h3] at nl2; cases nl2
  refine ⟨cl, _, _, rfl, rfl, by rw [upd_ne ncl]; exact c5, by rw [List.length_map, d5.1]; show q.calls.length ≤ 100000; omega, fg.i ?_⟩
  refine k kl2 _ ((F3.upd (.inr nt)).upd (.inl (by simp))) nl2 ?_
  exact (A3.ex (Ex.put nt)).call (c := (v, none)) upd_same nkc cs5 (by rw [upd_ne ncl]; exact c5) ⟨d5.1, fun i c k e1 e2 => Ex.put nt _ _ (d5.2 i c k e1 e2)⟩

theorem Queue_copy_ok (T : All K mg) {a kl cl : Addr} {q : Qst} {H : Hp} {Q : VK} {E : XK} (h : QAt T.Queue H a kl cl q) (ok : QOk q)
    (k : ∀ x kl2 cl2 H', Ex H H' → H x = none → H kl2 = none → H cl2 = none → kl2 ≠ cl2 → QAt T.Queue H' x kl2 cl2 q → Q (.ref x) H') : sp_Queue_copy T [.ref a] H Q E := by
  have h0 := h
  obtain ⟨⟨dx, h1⟩, h2, cs, h3, h4⟩ := h
  unfold sp_Queue_copy
  refine ⟨rfl, ?_⟩
  walk_at "vc"
  refine ⟨a, dx, _, _, rfl, h1, rfl, ?_⟩
  walk_at "vc"
  refine ⟨a, dx, _, _, rfl, h1, rfl, ?_⟩
  refine ⟨rfl, rfl, ?_⟩
  intro x dz nx ndz ne
  refine Queue_init_ok T (cap := q.size) upd_same ok.c2 ok.c9 ok.f0 fun kl0 cl0 H1 f1 nk nc nkc A => ⟨rfl, ?_⟩
  obtain ⟨y1, x01⟩ := made_ex nx ndz ne f1
  have out : ∀ {G : Hp} {o : HO}, Ex H G → Ex H (upd G x o) := fun {G o} e b u hb => by
    rw [upd_ne (ne_of_none hb nx)]
    exact e b u hb
  obtain ⟨d1, i1⟩ := A.ins
  walk_at "vc"
  refine ⟨a, dx, _, _, rfl, y1 _ _ h1, rfl, ?_⟩
  walk_at "vc"
  refine ⟨a, dx, _, _, rfl, y1 _ _ h1, rfl, ?_⟩
  walk_at "vc"
  refine ⟨a, dx, _, _, rfl, y1 _ _ h1, rfl, ?_⟩
  refine ⟨Nat.le_of_ble_eq_true rfl, fun t nt => ?_⟩
  refine ⟨t, _, rfl, .inl (.of upd_same), rfl, ?_⟩
  have y2 := y1.trans (Ex.put (o := .tup [.int q.mark, optV q.latest, .int q.most]) nt)
  have A2 := A.ex (Ex.put (o := .tup [.int q.mark, optV q.latest, .int q.most]) nt)
  show gCons _ _ [.int q.mark, optV q.latest, .int q.most] _ _ _ _
  generalize upd H1 t (.tup [.int q.mark, optV q.latest, .int q.most]) = H2 at y2 A2 ⊢
  obtain ⟨d2, i2⟩ := A2.ins
  walk_at "vc"
  refine ⟨x, d2, _, rfl, i2, Nat.le_of_ble_eq_true rfl, ?_⟩
  have A3 := A2.set (dx := d2) (q2 := { Qst.new q.size q.first with mark := q.mark }) (kl2 := kl0) rfl A2.kept rfl
  have y3 := out (o := .ins T.Queue d2 (fsQ { Qst.new q.size q.first with mark := q.mark } kl0 cl0)) y2
  show gCons _ _ [optV q.latest, .int q.most] _ (upd H2 x (.ins T.Queue d2 (fsQ { Qst.new q.size q.first with mark := q.mark } kl0 cl0))) _ _
  generalize upd H2 x (.ins T.Queue d2 (fsQ { Qst.new q.size q.first with mark := q.mark } kl0 cl0)) = H3 at A3 y3 ⊢
  obtain ⟨d3, i3⟩ := A3.ins
  walk_at "vc"
  refine ⟨x, d3, _, rfl, i3, Nat.le_of_ble_eq_true rfl, ?_⟩
  have A4 := A3.set (dx := d3) (q2 := { Qst.new q.size q.first with mark := q.mark, latest := q.latest }) (kl2 := kl0) rfl A3.kept rfl
  have y4 := out (o := .ins T.Queue d3 (fsQ { Qst.new q.size q.first with mark := q.mark, latest := q.latest } kl0 cl0)) y3
  show gCons _ _ [.int q.most] _ (upd H3 x (.ins T.Queue d3 (fsQ { Qst.new q.size q.first with mark := q.mark, latest := q.latest } kl0 cl0))) _ _
  generalize upd H3 x (.ins T.Queue d3 (fsQ { Qst.new q.size q.first with mark := q.mark, latest := q.latest } kl0 cl0)) = H4 at A4 y4 ⊢
  obtain ⟨d4, i4⟩ := A4.ins
  walk_at "vc"
  refine ⟨x, d4, _, rfl, i4, Nat.le_of_ble_eq_true rfl, ?_⟩
  have A5 := A4.set (dx := d4) (q2 := { Qst.new q.size q.first with mark := q.mark, latest := q.latest, most := q.most }) (kl2 := kl0) rfl A4.kept rfl
  have y5 := out (o := .ins T.Queue d4 (fsQ { Qst.new q.size q.first with mark := q.mark, latest := q.latest, most := q.most } kl0 cl0)) y4
  refine ⟨rfl, ?_⟩
  show zCons _ _ _ _ _ (upd H4 x (.ins T.Queue d4 (fsQ { Qst.new q.size q.first with mark := q.mark, latest := q.latest, most := q.most } kl0 cl0)))
  generalize upd H4 x (.ins T.Queue d4 (fsQ { Qst.new q.size q.first with mark := q.mark, latest := q.latest, most := q.most } kl0 cl0)) = H5 at A5 y5 ⊢
  have B5 := h0.ex y5
  obtain ⟨d5, i5⟩ := A5.ins
  walk_at "vc"
  refine ⟨a, dx, _, _, rfl, y5 _ _ h1, rfl, kl, _, rfl, .of (y5 _ _ h2), fun kl2 nkl => ?_⟩
  refine ⟨x, d5, _, rfl, Ex.put nkl _ _ i5, Nat.le_of_ble_eq_true rfl, ?_⟩
  have A6 := (A5.ex (Ex.put (o := .lst (q.kept.map V.int)) nkl)).set (dx := d5) (q2 := { q with calls := [] }) (kl2 := kl2) rfl upd_same rfl
  have y6 := out (o := .ins T.Queue d5 (fsQ { q with calls := [] } kl2 cl0)) (y5.trans (Ex.put (o := .lst (q.kept.map V.int)) nkl))
  have n6 := y5.free nkl
  show zCons _ _ _ _ _ (upd (upd H5 kl2 (.lst (q.kept.map V.int))) x (.ins T.Queue d5 (fsQ { q with calls := [] } kl2 cl0)))
  generalize upd (upd H5 kl2 (.lst (q.kept.map V.int))) x (.ins T.Queue d5 (fsQ { q with calls := [] } kl2 cl0)) = H6 at A6 y6 ⊢
  obtain ⟨d6, i6⟩ := A6.ins
  have k6 := A6.kept
  walk_at "vc"
  refine ⟨a, dx, _, _, rfl, y6 _ _ h1, rfl, cl, _, rfl, .of (y6 _ _ h3), fun cl2 ncl => ?_⟩
  refine ⟨x, d6, _, rfl, Ex.put ncl _ _ i6, Nat.le_of_ble_eq_true rfl, ?_⟩
  have y7 := out (o := .ins T.Queue d6 (fsQ q kl2 cl2)) (y6.trans (Ex.put (o := .lst (cs.map V.ref)) ncl))
  have nxc : x ≠ cl2 := ne_of_none i6 ncl
  have nxk : x ≠ kl2 := fun e => by subst e; rw [i6] at k6; cases k6
  have nkc2 : kl2 ≠ cl2 := ne_of_none k6 ncl
  refine fg.i (k x kl2 cl2 _ y7 nx n6 (y6.free ncl) nkc2 ⟨⟨d6, upd_same⟩, ?_, cs, ?_, ?_⟩)
  · rw [upd_ne nxk.symm, upd_ne nkc2]
    exact k6
  · rw [upd_ne nxc.symm, upd_same]
  · exact ⟨h4.1, fun i c kk e1 e2 => y7 _ _ (h4.2 i c kk e1 e2)⟩
/-! ## the pot told exactly -/
abbrev PS := Int × Int
def potL (s : PS) : HO := .lst [.int s.1, .int s.2]
def nxB (b : Int) : Int := (b * 48271 + 10037) % 2147483587
def dgV (s : PS) (m : Int) : Int := if s.1 > 0 then s.1 % m else nxB s.2 * nxB s.2 % 2147483563 / 5 % m
def dgS (s : PS) (m : Int) : PS := if s.1 > 0 then (s.1 / m, s.2) else (s.1, nxB s.2)
structure PotX (s : PS) : Prop where
  a0 : 0 ≤ s.1
  b0 : 0 ≤ s.2
  b1 : s.2 ≤ 2147483587
theorem nxB_b (b : Int) : 0 ≤ nxB b ∧ nxB b < 2147483587 := ⟨Int.emod_nonneg _ (by decide), Int.emod_lt_of_pos _ (by decide)⟩
theorem PotX.dig {s : PS} (h : PotX s) {m : Int} (hm : 1 ≤ m) : PotX (dgS s m) := by
  have := nxB_b s.2
  unfold dgS
  split
  · exact ⟨Int.ediv_nonneg h.a0 (by omega), h.b0, h.b1⟩
  · exact ⟨h.a0, this.1, by show nxB s.2 ≤ _; omega⟩
theorem dgV_b {s : PS} {m : Int} (hm : 1 ≤ m) : 0 ≤ dgV s m ∧ dgV s m < m := by
  unfold dgV
  split
  · exact ⟨Int.emod_nonneg _ (by omega), Int.emod_lt_of_pos _ (by omega)⟩
  · exact ⟨Int.emod_nonneg _ (by omega), Int.emod_lt_of_pos _ (by omega)⟩
section
variable {H : Hp} {Q : VK} {E : XK} {p : Addr} {s : PS}
theorem digit_x (T : All K mg) {m : Int} (hp : H p = some (potL s)) (ok : PotX s) (hm : DigOk m) (q : Q (.int (dgV s m)) (upd H p (potL (dgS s m)))) : sp__law_digit T [.ref p, .int m] H Q E := by
  unfold potL at hp
  unfold sp__law_digit
  refine ⟨rfl, ?_⟩
  walk_at "vc"
  refine ⟨p, _, _, _, rfl, rfl, .of hp, rfl, ?_⟩
  walk_at "vc"
  refine ⟨fun k => ?_, fun k => ?_⟩
  · have k : s.1 > 0 := of_decide_eq_true k
    have e1 : dgV s m = s.1 % m := if_pos k
    have e2 : dgS s m = (s.1 / m, s.2) := if_pos k
    rw [e1, e2] at q
    walk_at "vc"
    refine ⟨p, _, _, _, rfl, rfl, .of hp, rfl, ?_⟩
    walk_at "vc"
    refine ⟨dig_div hm, ?_⟩
    intro t nt
    refine ⟨t, _, rfl, .inl (.of upd_same), rfl, ?_⟩
    walk_at "vc"
    refine ⟨p, _, _, 0, rfl, rfl, hp_ne nt hp, rfl, ?_⟩
    refine ⟨rfl, ?_⟩
    walk_at "vc"
    exact ⟨_, Ex.set (Ex.put nt) p _, q⟩
  · have k : ¬ s.1 > 0 := of_decide_eq_false k
    have e1 : dgV s m = nxB s.2 * nxB s.2 % 2147483563 / 5 % m := if_neg k
    have e2 : dgS s m = (s.1, nxB s.2) := if_neg k
    rw [e1, e2] at q
    have nb := nxB_b s.2
    have b0 := ok.b0
    have b1 := ok.b1
    walk_at "vc"
    refine ⟨p, _, _, _, rfl, rfl, .of hp, rfl, ?_⟩
    walk_at "vc"
    refine ⟨mulW (by unfold Wide; omega) (by unfold Wide; omega), ?_⟩
    walk_at "vc"
    refine ⟨by walk_at "G:mod", ?_⟩
    refine ⟨p, _, _, 1, rfl, rfl, hp, rfl, ?_⟩
    walk_at "vc"
    have hp2 : upd H p (.lst [.int s.1, .int (nxB s.2)]) p = some (.lst [.int s.1, .int (nxB s.2)]) := upd_same
    refine ⟨p, _, _, _, rfl, rfl, .of hp2, rfl, ?_⟩
    walk_at "vc"
    refine ⟨p, _, _, _, rfl, rfl, .of hp2, rfl, ?_⟩
    walk_at "vc"
    refine ⟨mulW (by unfold Wide; omega) (by unfold Wide; omega), ?_⟩
    walk_at "vc"
    refine ⟨by walk_at "G:mod", ?_⟩
    walk_at "vc"
    refine ⟨fdiv_ok (by decide) (by decide), ?_⟩
    walk_at "vc"
    refine ⟨hm.1, ?_⟩
    exact fg.i q
end
section
variable {C : Addr} {G H H' : Hp} {p x kl cl : Addr} {s : PS} {q : Qst} {B : Int} {n : Nat}
theorem QAt.potw {o : HO} {xs : List V} (A : QAt C H x kl cl q) (hp : H p = some (.lst xs)) (n1 : p ≠ kl) (n2 : p ≠ cl) : QAt C (upd H p o) x kl cl q := by
  obtain ⟨dx, i⟩ := A.ins
  refine A.fr (L := [p]) (.upd (.of_ex (Ex.refl _)) (.inl (by simp))) ?_ ?_ ?_ fun b hb xs e => ?_
  · simp; exact ne_kind i hp (fun e => by cases e)
  · simp; exact n1.symm
  · simp; exact n2.symm
  · simp at hb
    subst hb
    rw [hp] at e
    cases e
/-- a queue and a pot of a law; G: what stood before, without the pot -/
structure KP (C : Addr) (G H : Hp) (p x kl cl : Addr) (s : PS) (q : Qst) (B : Int) (n : Nat) : Prop where
  l : Ly C G H x kl cl q B n
  gp : G p = none
  hp : H p = some (potL s)
  ps : PotX s
  npk : p ≠ kl
  npc : p ≠ cl
theorem KP.ex (c : KP C G H p x kl cl s q B n) (e : Ex H H') : KP C G H' p x kl cl s q B n := ⟨c.l.ex e, c.gp, e _ _ c.hp, c.ps, c.npk, c.npc⟩
theorem KP.dig (c : KP C G H p x kl cl s q B n) {m : Int} (hm : 1 ≤ m) : KP C G (upd H p (potL (dgS s m))) p x kl cl (dgS s m) q B n := by
  refine ⟨⟨⟨c.l.a.at_.potw c.hp c.npk c.npc, fun b o e => ?_, c.l.a.n1, c.l.a.c1, c.l.a.e1⟩, c.l.ok, c.l.pw, c.l.km, c.l.m0, c.l.m1, c.l.b1, c.l.b2, c.l.calls, c.l.s⟩, c.gp, upd_same, c.ps.dig hm, c.npk, c.npc⟩
  have nb : b ≠ p := ne_of_none e c.gp
  rw [upd_ne nb]
  exact c.l.a.xx b o e
theorem KP.keep (c : KP C G H p x kl cl s q B n) (f : Fr [x, cl] H H') : H' p = some (potL s) := by
  obtain ⟨dx, i⟩ := c.l.a.at_.ins
  refine f _ _ ?_ c.hp
  simp
  exact ⟨ne_kind c.hp i (fun e => by cases e), c.npc⟩
end
def pkI (s : PS) (xs : List Int) : Int := xs.getD (dgV s xs.length).toNat 0
theorem pkI_mem {s : PS} {xs : List Int} (h : 1 ≤ xs.length) : pkI s xs ∈ xs := by
  have := dgV_b (s := s) (m := xs.length) (by omega)
  unfold pkI
  rw [List.getD_eq_getElem?_getD, List.getElem?_eq_getElem (by omega)]
  exact List.getElem_mem _
def queueF (s : PS) : Nat × Int × PS :=
  let s1 := dgS s 20
  let s2 := dgS s1 100
  let s3 := dgS s2 5
  ((2 + dgV s3 8).toNat, pkI s2 [0, 0, 1, dgV s 20, 1000000000000000000000000000000 + dgV s1 100], dgS s3 8)
def nextF (q : Qst) (s : PS) : Int × PS := (q.bound + 1 + pkI (dgS s 12) [0, 0, 0, 1, dgV s 12], dgS (dgS s 12) 5)
def rangeF (q : Qst) (lo : Int) (s : PS) : Qst × PS :=
  let s3 := dgS s 60
  let s4 := dgS s3 100000000000000000000
  (q.arrive lo (lo + pkI s4 [0, 1, 7, dgV s 60, dgV s3 100000000000000000000]), dgS s4 5)
def goalF (q : Qst) (way : Int) (s : PS) : Qst × PS :=
  let s3 := dgS s 10
  let s4 := dgS s3 1000000000000000000
  let s5 := dgS s4 4
  if way = 6 ∧ q.kept ≠ [] then (q.advance (mx (q.mark + 1) (pkI s5 q.kept)), dgS s5 q.kept.length)
  else (q.advance (q.mark + 1 + pkI s4 [0, 1, dgV s 10, dgV s3 1000000000000000000]), s5)
def callF (q : Qst) (s : PS) : Qst × PS :=
  let way := dgV s 8
  let r := nextF q (dgS s 8)
  if way < 3 then (q.arrive r.1 r.1, r.2)
  else if way < 6 then rangeF q r.1 r.2
  else goalF q way r.2
section
variable {H : Hp} {Q : VK} {E : XK} {p : Addr} {s : PS}
theorem pick_x (T : All K mg) {l : Addr} {xs : List V} (hp : H p = some (potL s)) (ok : PotX s) (hl : H l = some (.lst xs)) (h1 : 1 ≤ xs.length) (h2 : xs.length ≤ 1000) (q : ∀ v, xs[(dgV s xs.length).toNat]? = some v → v ∈ xs → Q v (upd H p (potL (dgS s xs.length)))) (np : p ≠ l) : sp__law_pick T [.ref p, .ref l] H Q E := by
  have hd := dgV_b (s := s) (m := xs.length) (by omega)
  unfold sp__law_pick
  refine ⟨rfl, ?_⟩
  walk_at "vc"
  refine ⟨l, _, rfl, .of hl, ?_⟩
  refine digit_x T hp ok ⟨by omega, by omega⟩ ?_
  have e := List.getElem?_eq_getElem (l := xs) (i := (dgV s xs.length).toNat) (by omega)
  refine ⟨l, xs, _, xs[(dgV s xs.length).toNat], rfl, rfl, .of (by rw [upd_ne np.symm]; exact hl), ?_, fg.i (q _ e (List.getElem_mem _))⟩
  have z := atI_nat e
  rwa [Int.toNat_of_nonneg hd.1] at z
theorem pick_i (T : All K mg) {l : Addr} {xs : List Int} (hp : H p = some (potL s)) (ok : PotX s) (hl : H l = some (.lst (xs.map V.int))) (h1 : 1 ≤ xs.length) (h2 : xs.length ≤ 1000) (np : p ≠ l) (q : Q (.int (pkI s xs)) (upd H p (potL (dgS s xs.length)))) : sp__law_pick T [.ref p, .ref l] H Q E := by
  refine pick_x T hp ok hl (by rw [List.length_map]; exact h1) (by rw [List.length_map]; exact h2) (fun v hv _ => ?_) np
  rw [List.length_map] at hv ⊢
  rw [List.getElem?_map] at hv
  obtain ⟨i, hi, rfl⟩ := Option.map_eq_some_iff.mp hv
  have e : pkI s xs = i := by
    unfold pkI
    rw [List.getD_eq_getElem?_getD, hi]
    rfl
  rw [← e]
  exact q
end
section
variable {G H : Hp} {Q : VK} {E : XK} {p x kl cl : Addr} {s : PS} {q : Qst} {B : Int} {n : Nat}
theorem next_x (T : All K mg) (c : KP T.Queue G H p x kl cl s q B n) (k : ∀ H', KP T.Queue G H' p x kl cl (nextF q s).2 q B n → Fr [p, x, cl] H H' → Q (.int (nextF q s).1) H') : sp__law_next T [.ref p, .ref x] H Q E := by
  have A := c.l.a.at_
  obtain ⟨dx, i⟩ := A.ins
  unfold sp__law_next
  refine ⟨rfl, ?_⟩
  walk_at "vc"
  refine ⟨x, dx, _, rfl, i, rfl, Queue_newest_ok T A ?_⟩
  have first : ∀ (D : Ends) (W : WX), D.nx [some (.ref p), some (.ref x), some (optV q.latest), some (.int (q.bound + 1))] H → zSet 3 (rIf (tCmp oIs (rVar 2) (rC .non)) (rMeth T.Queue "start" (sp_Queue_start T) [] (rVar 1) aNil) (rBin oAdd (rVar 2) (rC (.int 1)))) D W [some (.ref p), some (.ref x), some (optV q.latest), none] H := fun D W h => by
    have eb : q.bound = match q.latest with
      | none => q.first - 1
      | some l => l := rfl
    cases hl : q.latest with
    | none =>
      rw [hl] at eb h
      have eb : q.bound = q.first - 1 := eb
      rw [eb, Int.sub_add_cancel] at h
      walk_at "vc"
      refine ⟨rfl, fun _ => ?_, fun z => nomatch z⟩
      walk_at "vc"
      refine ⟨x, dx, _, rfl, i, rfl, Queue_start_ok T A ?_⟩
      exact h
    | some l =>
      rw [hl] at eb h
      have eb : q.bound = l := eb
      rw [eb] at h
      walk_at "vc"
      exact ⟨rfl, (fun z => nomatch z), fun _ => h⟩
  refine first _ _ ?_
  walk_at "vc"
  refine digit_x T c.hp c.ps (by walk_at "G:dig") ?_
  have c1 := c.dig (m := 12) (by decide)
  have f1 : Fr [p, x, cl] H (upd H p (potL (dgS s 12))) := (Fr.of_ex (Ex.refl _)).upd (.inl (by simp))
  generalize upd H p (potL (dgS s 12)) = H1 at c1 f1 ⊢
  walk_at "vc"
  refine ⟨Nat.le_of_ble_eq_true rfl, fun t1 n1 => ?_⟩
  have c2 := c1.ex (Ex.put (o := .lst [.int 0, .int 0, .int 0, .int 1, .int (dgV s 12)]) n1)
  have f2 := f1.trans (.of_ex (Ex.put (o := .lst [.int 0, .int 0, .int 0, .int 1, .int (dgV s 12)]) n1))
  have g2 : upd H1 t1 (.lst [.int 0, .int 0, .int 0, .int 1, .int (dgV s 12)]) t1 = some (.lst (([0, 0, 0, 1, dgV s 12] : List Int).map V.int)) := upd_same
  have np : p ≠ t1 := ne_of_none c1.hp n1
  generalize upd H1 t1 (.lst [.int 0, .int 0, .int 0, .int 1, .int (dgV s 12)]) = H2 at c2 f2 g2 ⊢
  refine pick_i T c2.hp c2.ps g2 (by simp) (by simp) np ?_
  walk_at "vc"
  exact fg.i (k _ (c2.dig (m := 5) (by decide)) (f2.upd (.inl (by simp))))
theorem nextF_b {s : PS} (h : PotX s) : q.bound < (nextF q s).1 ∧ (nextF q s).1 ≤ q.bound + 12 := by
  have d := dgV_b (s := s) (m := 12) (by decide)
  have m := pkI_mem (s := dgS s 12) (xs := [0, 0, 0, 1, dgV s 12]) (by simp)
  show q.bound < q.bound + 1 + pkI _ _ ∧ q.bound + 1 + pkI _ _ ≤ q.bound + 12
  generalize pkI (dgS s 12) [0, 0, 0, 1, dgV s 12] = z at m
  simp only [List.mem_cons, List.not_mem_nil, or_false] at m
  omega
theorem KP.stay {H' : Hp} {kl2 : Addr} {q2 : Qst} {B2 : Int} {n2 : Nat} {C : Addr} (c : KP C G H p x kl cl s q B n) (f : Fr [x, cl] H H') (hk : H kl2 = none) (l : Ly C G H' x kl2 cl q2 B2 n2) : KP C G H' p x kl2 cl s q2 B2 n2 := ⟨l, c.gp, c.keep f, c.ps, ne_of_none c.hp hk, c.npc⟩
theorem fr2 {H1 H2 H3 : Hp} (f : Fr [p, x, cl] H1 H2) (g : Fr [x, cl] H2 H3) : Fr [p, x, cl] H1 H3 := f.trans fun b o h e => g b o (by simp at h ⊢; exact ⟨h.2.1, h.2.2⟩) e
theorem fr_old {L : List Addr} {H1 H2 : Hp} {b : Addr} (f : Fr L H1 H2) (h : H2 b = none) : b ∈ L ∨ H1 b = none := by
  by_cases m : b ∈ L
  · exact .inl m
  · refine .inr ?_
    cases e : H1 b with
    | none => rfl
    | some o =>
      have := f b o m e
      rw [h] at this
      cases this
theorem call_x (T : All K mg) (c : KP T.Queue G H p x kl cl s q B n) (hB : B ≤ 100000000000000000000000000000000000000000000000000000000000) (hn : n < 80000)
    (k : ∀ t kl2 H', Fr [p, x, cl] H H' → H kl2 = none → KP T.Queue G H' p x kl2 cl (callF q s).2 (callF q s).1 (B + 1000000000000000000000) (n + 1) → Q (.ref t) H') : sp__law_call T [.ref p, .ref x] H Q E := by
  have ok := c.l.ok
  have b0 := ok.b0
  have f0 := ok.f0
  have m0 := ok.m0
  have bb1 := c.l.b1
  have bb2 := c.l.b2
  have kl9 := ok.klen
  have c9 := ok.c9
  have hc := c.l.calls
  have e18 : (10 : Int) ^ (18 : Int).toNat = 1000000000000000000 := by decide +kernel
  have e20 : (10 : Int) ^ (20 : Int).toNat = 100000000000000000000 := by decide +kernel
  have notp : ∀ {H1 H2 : Hp} {b : Addr}, KP T.Queue G H1 p x kl cl s q B n → Fr [p, x, cl] H1 H2 → H2 b = none → (∃ o, H2 p = some o) → (∃ o, H2 x = some o) → (∃ o, H2 cl = some o) → H1 b = none := fun {H1 H2 b} _ f e hp hx hc => by
    rcases fr_old f e with m | m
    · simp at m
      rcases m with rfl | rfl | rfl
      · obtain ⟨_, h⟩ := hp; rw [e] at h; cases h
      · obtain ⟨_, h⟩ := hx; rw [e] at h; cases h
      · obtain ⟨_, h⟩ := hc; rw [e] at h; cases h
    · exact m
  unfold sp__law_call
  refine ⟨rfl, ?_⟩
  walk_at "vc"
  refine digit_x T c.hp c.ps (by walk_at "G:dig") ?_
  have hw := dgV_b (s := s) (m := 8) (by decide)
  have c1 := c.dig (m := 8) (by decide)
  have f1 : Fr [p, x, cl] H (upd H p (potL (dgS s 8))) := (Fr.of_ex (Ex.refl _)).upd (.inl (by simp))
  generalize upd H p (potL (dgS s 8)) = H1 at c1 f1 ⊢
  walk_at "vc"
  refine next_x T c1 fun H2 c2 f2 => ?_
  have f12 := f1.trans f2
  have hnx := nextF_b (q := q) c1.ps
  have ecF : callF q s = if dgV s 8 < 3 then (q.arrive (nextF q (dgS s 8)).1 (nextF q (dgS s 8)).1, (nextF q (dgS s 8)).2)
    else if dgV s 8 < 6 then rangeF q (nextF q (dgS s 8)).1 (nextF q (dgS s 8)).2
    else goalF q (dgV s 8) (nextF q (dgS s 8)).2 := rfl
  rw [ecF] at k
  clear ecF
  generalize nextF q (dgS s 8) = r at c2 hnx k ⊢
  obtain ⟨lo, s2⟩ := r
  have lo1 : q.bound < lo := hnx.1
  have lo2 : lo ≤ q.bound + 12 := hnx.2
  clear hnx c1
  have c2 : KP T.Queue G H2 p x kl cl s2 q B n := c2
  have k : ∀ t kl2 H', Fr [p, x, cl] H H' → H kl2 = none → KP T.Queue G H' p x kl2 cl (if dgV s 8 < 3 then (q.arrive lo lo, s2) else if dgV s 8 < 6 then rangeF q lo s2 else goalF q (dgV s 8) s2).2 (if dgV s 8 < 3 then (q.arrive lo lo, s2) else if dgV s 8 < 6 then rangeF q lo s2 else goalF q (dgV s 8) s2).1 (B + 1000000000000000000000) (n + 1) → Q (.ref t) H' := k
  have alive : ∀ {H' : Hp} {s : PS}, KP T.Queue G H' p x kl cl s q B n → (∃ o, H' p = some o) ∧ (∃ o, H' x = some o) ∧ ∃ o, H' cl = some o := fun {H' s} c => ⟨⟨_, c.hp⟩, c.l.a.at_.ins.elim fun _ i => ⟨_, i⟩, c.l.a.at_.cl_some⟩
  have new : ∀ {H' : Hp} {b : Addr} {s : PS}, Fr [p, x, cl] H H' → KP T.Queue G H' p x kl cl s q B n → H' b = none → H b = none := fun {H' b s} f c' e => notp c f e (alive c').1 (alive c').2.1 (alive c').2.2
  have fin : ∀ {way lo : Int} {z4 z5 : Option V} {kl2 : Addr} {s' : PS} {q' : Qst} {H' : Hp}, KP T.Queue G H' p x kl2 cl s' q' (B + 1000000000000000000000) (n + 1) → (∀ t H'', Fr [p, x, cl] H' H'' → KP T.Queue G H'' p x kl2 cl s' q' (B + 1000000000000000000000) (n + 1) → Q (.ref t) H'') → (zRet (rTup (aCons (rVar 3) (aCons (rVar 2) aNil)))) { nx := fun _ H' => fg (Q .non) H', rt := fun v H' => fg (Q v) H' } (fun c d _ H' => E c d H') [some (.ref p), some (.ref x), some (.int way), some (.int lo), z4, z5] H' := fun {way lo z4 z5 kl2 s' q' H'} c' hk => by
    walk_at "vc"
    refine ⟨Nat.le_of_ble_eq_true rfl, fun t nt => ?_⟩
    exact fg.i (hk t _ (.of_ex (Ex.put nt)) (c'.ex (Ex.put nt)))
  generalize dgV s 8 = way at hw k ⊢
  obtain ⟨dx, i2⟩ := c2.l.a.at_.ins
  walk_at "vc"
  refine ⟨fun k1 => ?_, fun k1 => ?_⟩
  · have k1 := of_decide_eq_true k1
    rw [if_pos k1] at k
    have blo : Big lo := by unfold Big; omega
    walk_at "vc"
    refine ⟨x, dx, _, rfl, i2, rfl, ?_⟩
    refine Queue_push_ok T c2.l.a.at_ ok lo1 blo (by omega) c2.l.a.e1 fun ka H3 f3 n3 A3 => ?_
    have l3 := c2.l.arrive (B2 := B + 1000000000000000000000) lo1 (Int.le_refl _) blo (by omega) (by omega) (by omega) (c2.l.a.op f3 n3 A3)
    exact fin (c2.stay f3 n3 l3) fun t H'' f4 c4 => k t ka _ ((fr2 f12 f3).trans f4) (new f12 c2 n3) c4
  · have k1 := of_decide_eq_false k1
    rw [if_neg k1] at k
    walk_at "vc"
    refine ⟨fun k2 => ?_, fun k2 => ?_⟩
    · have k2 := of_decide_eq_true k2
      rw [if_pos k2] at k
      walk_at "vc"
      refine ⟨x, dx, _, rfl, i2, rfl, ?_⟩
      walk_at "vc"
      refine digit_x T c2.hp c2.ps (by walk_at "G:dig") ?_
      have c3 := c2.dig (m := 60) (by decide)
      have f3 := f12.upd (p := p) (o := potL (dgS s2 60)) (.inl (by simp))
      generalize upd H2 p (potL (dgS s2 60)) = H3 at c3 f3 ⊢
      walk_at "vc"
      refine ⟨by walk_at "G:pow", ?_⟩
      rw [e20]
      refine digit_x T c3.hp c3.ps (by walk_at "G:dig") ?_
      have c4 := c3.dig (m := 100000000000000000000) (by decide)
      have f4 := f3.upd (p := p) (o := potL (dgS (dgS s2 60) 100000000000000000000)) (.inl (by simp))
      generalize upd H3 p (potL (dgS (dgS s2 60) 100000000000000000000)) = H4 at c4 f4 ⊢
      walk_at "vc"
      refine ⟨Nat.le_of_ble_eq_true rfl, fun t1 n1 => ?_⟩
      have np : p ≠ t1 := ne_of_none c4.hp n1
      have c5 := c4.ex (Ex.put (o := .lst [.int 0, .int 1, .int 7, .int (dgV s2 60), .int (dgV (dgS s2 60) 100000000000000000000)]) n1)
      have f5 := f4.trans (.of_ex (Ex.put (o := .lst [.int 0, .int 1, .int 7, .int (dgV s2 60), .int (dgV (dgS s2 60) 100000000000000000000)]) n1))
      have g5 : upd H4 t1 (.lst [.int 0, .int 1, .int 7, .int (dgV s2 60), .int (dgV (dgS s2 60) 100000000000000000000)]) t1 = some (.lst (([0, 1, 7, dgV s2 60, dgV (dgS s2 60) 100000000000000000000] : List Int).map V.int)) := upd_same
      generalize upd H4 t1 (.lst [.int 0, .int 1, .int 7, .int (dgV s2 60), .int (dgV (dgS s2 60) 100000000000000000000)]) = H5 at c5 f5 g5 ⊢
      refine pick_i T c5.hp c5.ps g5 (by simp) (by simp) np ?_
      have d3 := dgV_b (s := s2) (m := 60) (by decide)
      have d4 := dgV_b (s := dgS s2 60) (m := 100000000000000000000) (by decide)
      have mm := pkI_mem (s := dgS (dgS s2 60) 100000000000000000000) (xs := [0, 1, 7, dgV s2 60, dgV (dgS s2 60) 100000000000000000000]) (by simp)
      have c6 := c5.dig (m := 5) (by decide)
      have f6 := f5.upd (p := p) (o := potL (dgS (dgS (dgS s2 60) 100000000000000000000) 5)) (.inl (by simp))
      have er : rangeF q lo s2 = (q.arrive lo (lo + pkI (dgS (dgS s2 60) 100000000000000000000) [0, 1, 7, dgV s2 60, dgV (dgS s2 60) 100000000000000000000]), dgS (dgS (dgS s2 60) 100000000000000000000) 5) := rfl
      rw [er] at k
      show oAdd (.int lo) (.int (pkI (dgS (dgS s2 60) 100000000000000000000) [0, 1, 7, dgV s2 60, dgV (dgS s2 60) 100000000000000000000])) (upd H5 p (potL (dgS (dgS (dgS s2 60) 100000000000000000000) 5))) _
      generalize upd H5 p (potL (dgS (dgS (dgS s2 60) 100000000000000000000) 5)) = H6 at c6 f6 ⊢
      generalize dgS (dgS (dgS s2 60) 100000000000000000000) 5 = s6 at c6 k ⊢
      generalize pkI (dgS (dgS s2 60) 100000000000000000000) [0, 1, 7, dgV s2 60, dgV (dgS s2 60) 100000000000000000000] = g at mm k ⊢
      have gb : 0 ≤ g ∧ g ≤ 100000000000000000000 := by
        simp only [List.mem_cons, List.not_mem_nil, or_false] at mm
        omega
      have bhi : Big (lo + g) := by unfold Big; omega
      refine Queue_push_range_ok T c6.l.a.at_ ok lo1 (by omega) bhi (by omega) c6.l.a.e1 fun ka H7 f7 n7 A7 => ?_
      have l7 := c6.l.arrive (B2 := B + 1000000000000000000000) lo1 (show lo ≤ lo + g by omega) bhi (by omega) (by omega) (by omega) (c6.l.a.op f7 n7 A7)
      exact fin (c6.stay f7 n7 l7) fun t H'' f8 c8 => k t ka _ ((fr2 f6 f7).trans f8) (new f6 c6 n7) c8
    · have k2 := of_decide_eq_false k2
      rw [if_neg k2] at k
      walk_at "vc"
      refine ⟨x, dx, _, rfl, i2, rfl, Queue_passed_ok T c2.l.a.at_ ?_⟩
      walk_at "vc"
      refine digit_x T c2.hp c2.ps (by walk_at "G:dig") ?_
      have c3 := c2.dig (m := 10) (by decide)
      have f3 := f12.upd (p := p) (o := potL (dgS s2 10)) (.inl (by simp))
      generalize upd H2 p (potL (dgS s2 10)) = H3 at c3 f3 ⊢
      walk_at "vc"
      refine ⟨by walk_at "G:pow", ?_⟩
      rw [e18]
      refine digit_x T c3.hp c3.ps (by walk_at "G:dig") ?_
      have c4 := c3.dig (m := 1000000000000000000) (by decide)
      have f4 := f3.upd (p := p) (o := potL (dgS (dgS s2 10) 1000000000000000000)) (.inl (by simp))
      generalize upd H3 p (potL (dgS (dgS s2 10) 1000000000000000000)) = H4 at c4 f4 ⊢
      walk_at "vc"
      refine ⟨Nat.le_of_ble_eq_true rfl, fun t1 n1 => ?_⟩
      have np : p ≠ t1 := ne_of_none c4.hp n1
      have c5 := c4.ex (Ex.put (o := .lst [.int 0, .int 1, .int (dgV s2 10), .int (dgV (dgS s2 10) 1000000000000000000)]) n1)
      have f5 := f4.trans (.of_ex (Ex.put (o := .lst [.int 0, .int 1, .int (dgV s2 10), .int (dgV (dgS s2 10) 1000000000000000000)]) n1))
      have g5 : upd H4 t1 (.lst [.int 0, .int 1, .int (dgV s2 10), .int (dgV (dgS s2 10) 1000000000000000000)]) t1 = some (.lst (([0, 1, dgV s2 10, dgV (dgS s2 10) 1000000000000000000] : List Int).map V.int)) := upd_same
      generalize upd H4 t1 (.lst [.int 0, .int 1, .int (dgV s2 10), .int (dgV (dgS s2 10) 1000000000000000000)]) = H5 at c5 f5 g5 ⊢
      refine pick_i T c5.hp c5.ps g5 (by simp) (by simp) np ?_
      have d3 := dgV_b (s := s2) (m := 10) (by decide)
      have d4 := dgV_b (s := dgS s2 10) (m := 1000000000000000000) (by decide)
      have mm := pkI_mem (s := dgS (dgS s2 10) 1000000000000000000) (xs := [0, 1, dgV s2 10, dgV (dgS s2 10) 1000000000000000000]) (by simp)
      have c6 := c5.dig (m := 4) (by decide)
      have f6 := f5.upd (p := p) (o := potL (dgS (dgS (dgS s2 10) 1000000000000000000) 4)) (.inl (by simp))
      have er : goalF q way s2 = if way = 6 ∧ q.kept ≠ [] then (q.advance (mx (q.mark + 1) (pkI (dgS (dgS (dgS s2 10) 1000000000000000000) 4) q.kept)), dgS (dgS (dgS (dgS s2 10) 1000000000000000000) 4) q.kept.length)
        else (q.advance (q.mark + 1 + pkI (dgS (dgS s2 10) 1000000000000000000) [0, 1, dgV s2 10, dgV (dgS s2 10) 1000000000000000000]), dgS (dgS (dgS s2 10) 1000000000000000000) 4) := rfl
      rw [er] at k
      show oAdd (.int (q.mark + 1)) (.int (pkI (dgS (dgS s2 10) 1000000000000000000) [0, 1, dgV s2 10, dgV (dgS s2 10) 1000000000000000000])) (upd H5 p (potL (dgS (dgS (dgS s2 10) 1000000000000000000) 4))) _
      generalize upd H5 p (potL (dgS (dgS (dgS s2 10) 1000000000000000000) 4)) = H6 at c6 f6 ⊢
      generalize dgS (dgS (dgS s2 10) 1000000000000000000) 4 = s5 at c6 k ⊢
      generalize pkI (dgS (dgS s2 10) 1000000000000000000) [0, 1, dgV s2 10, dgV (dgS s2 10) 1000000000000000000] = g at mm k ⊢
      have gb : 0 ≤ g ∧ g ≤ 1000000000000000000 := by
        simp only [List.mem_cons, List.not_mem_nil, or_false] at mm
        omega
      clear c3 c4 c5 f3 f4 f5
      obtain ⟨dx6, i6⟩ := c6.l.a.at_.ins
      walk_at "vc"
      refine ⟨x, dx6, _, rfl, i6, rfl, ?_⟩
      refine Queue_waiting_ok T c6.l.a.at_ fun w nw => ?_
      have c7 := c6.ex (Ex.put (o := .lst (q.kept.map V.int)) nw)
      have f7 := f6.trans (.of_ex (Ex.put (o := .lst (q.kept.map V.int)) nw))
      have hw7 : upd H6 w (.lst (q.kept.map V.int)) w = some (.lst (q.kept.map V.int)) := upd_same
      have npw : p ≠ w := ne_of_none c6.hp nw
      generalize upd H6 w (.lst (q.kept.map V.int)) = H7 at c7 f7 hw7 ⊢
      have last : ∀ {g : Int} {s' : PS} {H8 : Hp}, KP T.Queue G H8 p x kl cl s' q B n → Fr [p, x, cl] H H8 → q.mark < g → g ≤ B + 1000000000000000000000 → (∀ t kl2 H', Fr [p, x, cl] H H' → H kl2 = none → KP T.Queue G H' p x kl2 cl s' (q.advance g) (B + 1000000000000000000000) (n + 1) → Q (.ref t) H') → (zCons (zExpr (rMeth T.Queue "advance" (sp_Queue_advance T) [] (rVar 1) (aCons (rVar 4) aNil))) (zRet (rTup (aCons (rVar 3) (aCons (rVar 2) aNil))))) { nx := fun _ H' => fg (Q .non) H', rt := fun v H' => fg (Q v) H' } (fun c d _ H' => E c d H') [some (.ref p), some (.ref x), some (.int way), some (.int lo), some (.int g), some (.ref w)] H8 := fun {g s' H8} c8 f8 h1 h2 hk => by
        obtain ⟨dx8, i8⟩ := c8.l.a.at_.ins
        walk_at "vc"
        refine ⟨x, dx8, _, rfl, i8, rfl, ?_⟩
        refine Queue_advance_ok T c8.l.a.at_ ok h1 (by unfold Big; omega) (by omega) c8.l.a.e1 fun ka H9 f9 n9 A9 => ?_
        have l9 := c8.l.advance (B2 := B + 1000000000000000000000) (show 0 ≤ g by omega) (by unfold Big; omega) (by omega) h2 (by omega) (c8.l.a.op f9 n9 A9)
        exact fin (c8.stay f9 n9 l9) fun t H'' f10 c10 => hk t ka _ ((fr2 f8 f9).trans f10) (new f8 c8 n9) c10
      walk_at "vc"
      refine ⟨fun k3 => ?_, fun k3 => ?_⟩
      · have k3 : way = 6 := of_decide_eq_true k3
        walk_at "vc"
        refine ⟨Nat.le_of_ble_eq_true rfl, fun t2 n2 => ?_⟩
        refine ⟨.list (q.kept.map PyData.int), .list [], .lst (.of (Ex.put n2 _ _ hw7)) (dp_ints _), .lst (.of upd_same) .nil, shaped_li _, rfl, ?_⟩
        rw [eqv_nil]
        have c8 := c7.ex (Ex.put (o := .lst []) n2)
        have hw8 := Ex.put (o := .lst []) n2 _ _ hw7
        have f8 := f7.trans (.of_ex (Ex.put (o := .lst []) n2))
        generalize upd H7 t2 (.lst []) = H8 at c8 hw8 f8 ⊢
        refine ⟨fun k4 => ?_, fun k4 => ?_⟩
        · have kne : q.kept ≠ [] := fun e => by rw [e] at k4; cases k4
          have kl1 : 1 ≤ q.kept.length := List.length_pos_iff.mpr kne
          rw [if_pos ⟨k3, kne⟩] at k
          obtain ⟨dx8, i8⟩ := c8.l.a.at_.ins
          walk_at "vc"
          refine ⟨x, dx8, _, rfl, i8, rfl, Queue_passed_ok T c8.l.a.at_ ?_⟩
          walk_at "vc"
          refine pick_i T c8.hp c8.ps hw8 kl1 (by omega) npw ?_
          have zb := ok.kb _ (pkI_mem (s := s5) kl1)
          have c9' := c8.dig (m := q.kept.length) (by omega)
          have f9 := f8.upd (p := p) (o := potL (dgS s5 q.kept.length)) (.inl (by simp))
          generalize upd H8 p (potL (dgS s5 q.kept.length)) = H9 at c9' f9 ⊢
          unfold aNil cMax L2.G.c2 oJ
          dsimp only
          have hm := mx_le (q.mark + 1) (pkI s5 q.kept)
          have hm2 : mx (q.mark + 1) (pkI s5 q.kept) ≤ B + 1000000000000000000000 := by unfold mx; split <;> omega
          exact last c9' f9 (by omega) hm2 k
        · have kne : q.kept = [] := by
            cases e : q.kept with
            | nil => rfl
            | cons a l => rw [e] at k4; cases k4
          rw [if_neg (fun z => z.2 kne)] at k
          unfold zNil
          dsimp only
          exact last c8 f8 (by omega) (by omega) k
      · rw [if_neg (fun z => of_decide_eq_false k3 z.1)] at k
        refine ⟨(fun z => nomatch z), fun _ => ?_⟩
        unfold zNil
        dsimp only
        exact last c7 f7 (by omega) (by omega) k
end
section
variable {G H : Hp} {Q : VK} {E : XK} {p : Addr} {s : PS}
theorem queue_x (T : All K mg) (hp : H p = some (potL s)) (ps : PotX s) (gp : G p = none) (x0 : Ex G H) (k : ∀ x kl cl H', Fr [p] H H' → H x = none → H kl = none → H cl = none → KP T.Queue G H' p x kl cl (queueF s).2.2 (Qst.new (queueF s).1 (queueF s).2.1) 2000000000000000000000000000000 0 → Q (.ref x) H') : sp__law_queue T [.ref p] H Q E := by
  have e30 : (10 : Int) ^ (30 : Int).toNat = 1000000000000000000000000000000 := by decide +kernel
  have out : ∀ {H1 : Hp} {o : HO}, Ex G H1 → Ex G (upd H1 p o) := fun {H1 o} e b u hb => by
    rw [upd_ne (ne_of_none hb gp)]
    exact e b u hb
  unfold sp__law_queue
  refine ⟨rfl, ?_⟩
  walk_at "vc"
  refine digit_x T hp ps (by walk_at "G:dig") ?_
  have d0 := dgV_b (s := s) (m := 20) (by decide)
  have p1 := ps.dig (m := 20) (by decide)
  have x1 := out (o := potL (dgS s 20)) x0
  have f1 : Fr [p] H (upd H p (potL (dgS s 20))) := (Fr.of_ex (Ex.refl _)).upd (.inl (by simp))
  have h1 : upd H p (potL (dgS s 20)) p = some (potL (dgS s 20)) := upd_same
  generalize upd H p (potL (dgS s 20)) = H1 at x1 f1 h1 ⊢
  walk_at "vc"
  refine ⟨by walk_at "G:pow", ?_⟩
  rw [e30]
  refine digit_x T h1 p1 (by walk_at "G:dig") ?_
  have d1 := dgV_b (s := dgS s 20) (m := 100) (by decide)
  have p2 := p1.dig (m := 100) (by decide)
  have x2 := out (o := potL (dgS (dgS s 20) 100)) x1
  have f2 := f1.upd (p := p) (o := potL (dgS (dgS s 20) 100)) (.inl (by simp))
  have h2 : upd H1 p (potL (dgS (dgS s 20) 100)) p = some (potL (dgS (dgS s 20) 100)) := upd_same
  generalize upd H1 p (potL (dgS (dgS s 20) 100)) = H2 at x2 f2 h2 ⊢
  walk_at "vc"
  refine ⟨Nat.le_of_ble_eq_true rfl, fun t1 n1 => ?_⟩
  have np : p ≠ t1 := ne_of_none h2 n1
  have x3 := x2.trans (Ex.put (o := .lst [.int 0, .int 0, .int 1, .int (dgV s 20), .int (1000000000000000000000000000000 + dgV (dgS s 20) 100)]) n1)
  have f3 := f2.trans (.of_ex (Ex.put (o := .lst [.int 0, .int 0, .int 1, .int (dgV s 20), .int (1000000000000000000000000000000 + dgV (dgS s 20) 100)]) n1))
  have h3 := Ex.put (o := .lst [.int 0, .int 0, .int 1, .int (dgV s 20), .int (1000000000000000000000000000000 + dgV (dgS s 20) 100)]) n1 _ _ h2
  have g3 : upd H2 t1 (.lst [.int 0, .int 0, .int 1, .int (dgV s 20), .int (1000000000000000000000000000000 + dgV (dgS s 20) 100)]) t1 = some (.lst (([0, 0, 1, dgV s 20, 1000000000000000000000000000000 + dgV (dgS s 20) 100] : List Int).map V.int)) := upd_same
  generalize upd H2 t1 (.lst [.int 0, .int 0, .int 1, .int (dgV s 20), .int (1000000000000000000000000000000 + dgV (dgS s 20) 100)]) = H3 at x3 f3 h3 g3 ⊢
  refine pick_i T h3 p2 g3 (by simp) (by simp) np ?_
  have mm := pkI_mem (s := dgS (dgS s 20) 100) (xs := [0, 0, 1, dgV s 20, 1000000000000000000000000000000 + dgV (dgS s 20) 100]) (by simp)
  have eq : queueF s = ((2 + dgV (dgS (dgS (dgS s 20) 100) 5) 8).toNat, pkI (dgS (dgS s 20) 100) [0, 0, 1, dgV s 20, 1000000000000000000000000000000 + dgV (dgS s 20) 100], dgS (dgS (dgS (dgS s 20) 100) 5) 8) := rfl
  rw [eq] at k
  clear eq
  generalize pkI (dgS (dgS s 20) 100) [0, 0, 1, dgV s 20, 1000000000000000000000000000000 + dgV (dgS s 20) 100] = bg at mm k ⊢
  have bb : 0 ≤ bg ∧ bg ≤ 1000000000000000000000000000100 := by
    simp only [List.mem_cons, List.not_mem_nil, or_false] at mm
    omega
  have p4 := p2.dig (m := 5) (by decide)
  generalize dgS (dgS s 20) 100 = s2 at p2 p4 k ⊢
  have x4 := out (o := potL (dgS s2 5)) x3
  have f4 := f3.upd (p := p) (o := potL (dgS s2 5)) (.inl (by simp))
  have h4 : upd H3 p (potL (dgS s2 5)) p = some (potL (dgS s2 5)) := upd_same
  walk_at "vc"
  show sp__law_digit T [.ref p, .int 8] (upd H3 p (potL (dgS s2 5))) _ _
  generalize upd H3 p (potL (dgS s2 5)) = H4 at x4 f4 h4 ⊢
  generalize dgS s2 5 = s4 at p4 h4 k ⊢
  refine digit_x T h4 p4 (by walk_at "G:dig") ?_
  have d5 := dgV_b (s := s4) (m := 8) (by decide)
  have p5 := p4.dig (m := 8) (by decide)
  have x5 := out (o := potL (dgS s4 8)) x4
  have f5 := f4.upd (p := p) (o := potL (dgS s4 8)) (.inl (by simp))
  have h5 : upd H4 p (potL (dgS s4 8)) p = some (potL (dgS s4 8)) := upd_same
  generalize upd H4 p (potL (dgS s4 8)) = H5 at x5 f5 h5 ⊢
  obtain ⟨cap, hcap⟩ : ∃ c : Nat, 2 + dgV s4 8 = c := ⟨(2 + dgV s4 8).toNat, by omega⟩
  walk_at "vc"
  rw [hcap] at k ⊢
  have k : ∀ x kl cl H', Fr [p] H H' → H x = none → H kl = none → H cl = none → KP T.Queue G H' p x kl cl (dgS s4 8) (Qst.new cap bg) 2000000000000000000000000000000 0 → Q (.ref x) H' := k
  refine ⟨rfl, rfl, ?_⟩
  intro x dx nx ndx ne
  have hbg : Big bg := by unfold Big; omega
  refine Queue_init_ok T (cap := cap) upd_same (by omega) (by omega) bb.1 fun kl cl H6 f6 nk nc nkc A => ⟨rfl, ?_⟩
  obtain ⟨y2, x02⟩ := made_ex nx ndx ne f6
  have hp6 := y2 _ _ h5
  have back : ∀ {b : Addr}, H5 b = none → H b = none := fun {b} e => by
    rcases fr_old f5 e with m | m
    · simp at m
      subst m
      rw [h5] at e
      cases e
    · exact m
  have a1 : Q1 T.Queue G H6 x kl cl (Qst.new cap bg) := ⟨A, x5.trans y2, x5.free nx, x5.free (x02.free nc), nkc⟩
  exact fg.i (k x kl cl H6 (f5.trans (.of_ex y2)) (back nx) (back (x02.free nk)) (back (x02.free nc)) ⟨⟨a1, QOk.new (by omega) (by omega) bb.1 hbg, .nil, (fun v hv => nomatch hv), Int.le_refl _, by show (0 : Int) ≤ bg - 1 + 1; omega, by show bg - 1 ≤ _; omega, by show bg - 1 ≤ _; omega, Nat.le_refl _, Sim.new _ _⟩, gp, hp6, p5, ne_of_none h5 (x02.free nk), ne_of_none h5 (x02.free nc)⟩)
end
def stD (q : Qst) : PyData := .list [.list [.int q.size, .int q.first, .int q.mark, optD q.latest, .list (q.kept.map PyData.int)], .list [.int q.lag, .int q.most], .int q.kept.length, .str q.text, .list [dropD (q.dropOf 0), dropD (q.dropOf 1), dropD (q.dropOf 2)]]
theorem optD_lay (o : Option Int) : PyData.canLay0 (optD o) = true ∧ (optD o).depth = 0 := by cases o <;> exact ⟨rfl, rfl⟩
theorem stD_lay (q : Qst) : Lay 4 (stD q) := by
  have d0 := dropD_depth (q.dropOf 0)
  have d1 := dropD_depth (q.dropOf 1)
  have d2 := dropD_depth (q.dropOf 2)
  have d3 := (optD_lay q.latest).2
  refine ⟨?_, ?_⟩
  · simp only [stD, PyData.canLay0, PyData.canLayAll0, dropD_lay, q.text_ok, lay_ints, (optD_lay q.latest).1, Bool.and_true]
  · simp only [stD, PyData.depth, PyData.depthAll, depth_ints]
    omega
theorem stD_shaped (q : Qst) : SeqAt.shaped (stD q) = true := (stD_lay q).shaped (by decide)
theorem three28 {α : Type} {ys : List α} (h : ys.length = 3) : ∃ a b c, ys = [a, b, c] := by
  match ys, h with
  | [a, b, c], _ => exact ⟨a, b, c, rfl⟩
theorem state_ok (T : All K mg) {x kl cl : Addr} {q : Qst} {H : Hp} {Q : VK} {E : XK} (A : QAt T.Queue H x kl cl q) (ok : QOk q) (k : ∀ t H', Ex H H' → H t = none → Dp K H' (.ref t) (stD q) → Q (.ref t) H') : sp__law_state T [.ref x] H Q E := by
  obtain ⟨dx, i⟩ := A.ins
  unfold sp__law_state
  refine ⟨rfl, ?_⟩
  walk_at "vc"
  refine ⟨x, dx, _, rfl, i, rfl, Queue_capacity_ok T A ?_⟩
  walk_at "vc"
  refine ⟨x, dx, _, rfl, i, rfl, Queue_start_ok T A ?_⟩
  walk_at "vc"
  refine ⟨x, dx, _, rfl, i, rfl, Queue_passed_ok T A ?_⟩
  walk_at "vc"
  refine ⟨x, dx, _, rfl, i, rfl, Queue_newest_ok T A ?_⟩
  walk_at "vc"
  refine ⟨x, dx, _, rfl, i, rfl, Queue_waiting_ok T A fun w nw => ?_⟩
  have y1 := Ex.put (o := .lst (q.kept.map V.int)) nw
  have g1 : upd H w (.lst (q.kept.map V.int)) w = some (.lst (q.kept.map V.int)) := upd_same
  generalize upd H w (.lst (q.kept.map V.int)) = H1 at y1 g1 ⊢
  refine ⟨Nat.le_of_ble_eq_true rfl, fun a na => ?_⟩
  have y2 := y1.trans (Ex.put (o := .lst [.int q.size, .int q.first, .int q.mark, optV q.latest, .ref w]) na)
  have g1 := Ex.put (o := .lst [.int q.size, .int q.first, .int q.mark, optV q.latest, .ref w]) na _ _ g1
  have g2 : upd H1 a (.lst [.int q.size, .int q.first, .int q.mark, optV q.latest, .ref w]) a = some (.lst [.int q.size, .int q.first, .int q.mark, optV q.latest, .ref w]) := upd_same
  generalize upd H1 a (.lst [.int q.size, .int q.first, .int q.mark, optV q.latest, .ref w]) = H2 at y2 g1 g2 ⊢
  walk_at "vc"
  refine ⟨by decide, ?_⟩
  refine lc_growR (fun i y H => Dp K H y (dropD (q.dropOf i))) (fun i y H1 H2 x h => Dp.ex x h) (by decide) (fun j d acc H' R hj x5 nd kk => ?_) fun ys r H3 x3 hl hy nr => ?_
  · have A2 := A.ex ((y2.trans x5).trans (Ex.put (o := .lst acc) nd))
    obtain ⟨d2, i2⟩ := A2.ins
    have hj4 : j < 3 := hj
    walk_at "vc"
    refine ⟨x, d2, _, rfl, i2, rfl, ?_⟩
    refine Queue_drop_of_ok T A2 ok (by omega) (by unfold Big; omega) (fun e H2 x2 => kk _ _ x2 ?_) (fun dd e t r2 H2 x2 _ e1 e2 => kk _ _ x2 ?_)
    · rw [e]
      exact .non
    · rw [e]
      have hd := x2 d _ upd_same
      refine drop_dp (t := t) (r2 := r2) ?_ ?_
      · rw [del_ne (ne_kind e1 hd (fun e => by cases e))]
        exact e1
      · rw [del_ne (ne_kind e2 hd (fun e => by cases e))]
        exact e2
  · obtain ⟨z0, z1, z2, rfl⟩ := three28 hl
    have k0 := hy 0 _ rfl
    have k1 := hy 1 _ rfl
    have k2 := hy 2 _ rfl
    have g1 := x3 _ _ g1
    have g2 := x3 _ _ g2
    have y3 := y2.trans x3
    have y4 : Ex H3 (upd H3 r (.lst [z0, z1, z2])) := Ex.put nr
    have g3 : upd H3 r (.lst [z0, z1, z2]) r = some (.lst [z0, z1, z2]) := upd_same
    generalize upd H3 r (.lst [z0, z1, z2]) = H4 at y4 g3 ⊢
    have A4 := A.ex (y3.trans y4)
    obtain ⟨d4, i4⟩ := A4.ins
    walk_at "vc"
    refine ⟨x, d4, _, rfl, i4, rfl, Queue_lag_ok T A4 ?_⟩
    walk_at "vc"
    refine ⟨x, d4, _, rfl, i4, rfl, Queue_greatest_lag_ok T A4 ?_⟩
    refine ⟨Nat.le_of_ble_eq_true rfl, fun b nb => ?_⟩
    have y5 := y4.trans (Ex.put (o := .lst [.int q.lag, .int q.most]) nb)
    have g3 := Ex.put (o := .lst [.int q.lag, .int q.most]) nb _ _ g3
    have g4 : upd H4 b (.lst [.int q.lag, .int q.most]) b = some (.lst [.int q.lag, .int q.most]) := upd_same
    generalize upd H4 b (.lst [.int q.lag, .int q.most]) = H5 at y5 g3 g4 ⊢
    have A5 := A.ex (y3.trans y5)
    obtain ⟨d5, i5⟩ := A5.ins
    have kl := ok.klen
    have c9 := ok.c9
    walk_at "vc"
    refine ⟨x, d5, _, rfl, i5, Queue_len_ok T A5 ⟨⟨by omega, by omega⟩, ?_⟩⟩
    walk_at "vc"
    refine ⟨x, d5, _, rfl, i5, Queue_repr_ok T A5 ok ?_⟩
    refine ⟨Nat.le_of_ble_eq_true rfl, fun t nt => ?_⟩
    have y6 := Ex.put (o := .lst [.ref a, .ref b, .int q.kept.length, .str q.text, .ref r]) nt
    have y56 := y5.trans y6
    exact fg.i (k t _ (y3.trans y56) ((y3.trans y5).free nt) (.lst (.of upd_same) (.cons (.lst (.of (y56 _ _ g2)) (.cons (.int _) (.cons (.int _) (.cons (.int _) (.cons (dp_opt _) (.cons (.lst (.of (y56 _ _ g1)) (dp_ints _)) .nil)))))) (.cons (.lst (.of (y6 _ _ g4)) (.cons (.int _) (.cons (.int _) .nil))) (.cons (.int _) (.cons (.str _) (.cons (.lst (.of (y6 _ _ g3)) (.cons (Dp.ex y56 k0) (.cons (Dp.ex y56 k1) (.cons (Dp.ex y56 k2) .nil)))) .nil)))))))
theorem int_rp {i : Int} (h : -1 ≤ i) (b : Big i) : RpOk (.int i) := opt_rp (o := some i) fun j e => by cases e; exact ⟨h, b⟩
theorem written_ok (T : All K mg) {x kl cl : Addr} {q : Qst} {H : Hp} {Q : VK} {E : XK} (A : QAt T.Queue H x kl cl q) (ok : QOk q) (k : ∀ H', Ex H H' → Q (.str q.text) H') : sp__law_written T [.ref x] H Q E := by
  obtain ⟨dx, i⟩ := A.ins
  have c9 := ok.c9
  have f0 := ok.f0
  have f1 := ok.f1
  have m0 := ok.m0
  have m1 := ok.m1
  have s1 := ofs_len (i := (q.size : Int)) (by omega)
  have s2 := ofs_len (i := q.first) (by unfold Big at *; omega)
  have s3 := ofs_len (i := q.mark) (by unfold Big at *; omega)
  have s4 := opt_len ok.latest
  have s5 := kept_len ok
  have a1 : (Str.ofString "capacity=").length ≤ 100 := by decide +kernel
  have b1 : (Str.ofString ", start=").length ≤ 100 := by decide +kernel
  have b2 : (Str.ofString ", passed=").length ≤ 100 := by decide +kernel
  have b3 : (Str.ofString ", newest=").length ≤ 100 := by decide +kernel
  have b4 : (Str.ofString "Queue(").length ≤ 100 := by decide +kernel
  have b5 : (Str.ofString ", waiting=").length ≤ 100 := by decide +kernel
  have b6 : (Str.ofString ")").length ≤ 100 := by decide +kernel
  have a2 := lt_app a1 s1
  have a3 := lt_app a2 b1
  have a4 := lt_app a3 s2
  have a5 := lt_app a4 b2
  have a6 := lt_app a5 s3
  have a7 := lt_app a6 b3
  have a8 := lt_app a7 s4
  have c1 := lt_app b4 a8
  have c2 := lt_app c1 b5
  have c3 := lt_app c2 s5
  have sz : 10000000 ≤ sizeLine := by decide
  have et : q.text = (((Str.ofString "Queue(" ++ (((((((Str.ofString "capacity=" ++ Str.ofString (toString (q.size : Int))) ++ Str.ofString ", start=") ++ Str.ofString (toString q.first)) ++ Str.ofString ", passed=") ++ Str.ofString (toString q.mark)) ++ Str.ofString ", newest=") ++ toldS (optD q.latest))) ++ Str.ofString ", waiting=") ++ PyData.shown (.list (q.kept.map PyData.int))) ++ Str.ofString ")" := by
    unfold Qst.text numT
    rw [empty_app, empty_app]
  rw [et] at k
  unfold sp__law_written
  refine ⟨rfl, ?_⟩
  walk_at "vc"
  refine ⟨x, dx, _, rfl, i, rfl, Queue_capacity_ok T A ?_⟩
  unfold aNil
  dsimp only
  refine ⟨.int q.size, .int _, int_rp (by omega) (by unfold Big; omega), ?_⟩
  refine ⟨_, _, rfl, rfl, Nat.le_trans (Nat.add_le_add a1 s1) (by omega), ?_⟩
  walk_at "vc"
  refine ⟨_, _, rfl, rfl, Nat.le_trans (Nat.add_le_add a2 b1) (by omega), ?_⟩
  walk_at "vc"
  refine ⟨x, dx, _, rfl, i, rfl, Queue_start_ok T A ?_⟩
  refine ⟨.int q.first, .int _, int_rp (by omega) f1, ?_⟩
  refine ⟨_, _, rfl, rfl, Nat.le_trans (Nat.add_le_add a3 s2) (by omega), ?_⟩
  walk_at "vc"
  refine ⟨_, _, rfl, rfl, Nat.le_trans (Nat.add_le_add a4 b2) (by omega), ?_⟩
  walk_at "vc"
  refine ⟨x, dx, _, rfl, i, rfl, Queue_passed_ok T A ?_⟩
  refine ⟨.int q.mark, .int _, int_rp (by omega) m1, ?_⟩
  refine ⟨_, _, rfl, rfl, Nat.le_trans (Nat.add_le_add a5 s3) (by omega), ?_⟩
  walk_at "vc"
  refine ⟨_, _, rfl, rfl, Nat.le_trans (Nat.add_le_add a6 b3) (by omega), ?_⟩
  walk_at "vc"
  refine ⟨x, dx, _, rfl, i, rfl, Queue_newest_ok T A ?_⟩
  refine ⟨optD q.latest, dp_opt _, opt_rp ok.latest, ?_⟩
  refine ⟨_, _, rfl, rfl, Nat.le_trans (Nat.add_le_add a7 s4) (by omega), ?_⟩
  walk_at "vc"
  refine ⟨_, _, rfl, rfl, Nat.le_trans (Nat.add_le_add b4 a8) (by omega), ?_⟩
  walk_at "vc"
  refine ⟨_, _, rfl, rfl, Nat.le_trans (Nat.add_le_add c1 b5) (by omega), ?_⟩
  walk_at "vc"
  refine ⟨x, dx, _, rfl, i, rfl, Queue_waiting_ok T A fun w nw => ?_⟩
  refine ⟨.list (q.kept.map PyData.int), .lst (.of upd_same) (dp_ints _), kept_rp ok, ?_⟩
  refine ⟨_, _, rfl, rfl, Nat.le_trans (Nat.add_le_add c2 s5) (by omega), ?_⟩
  walk_at "vc"
  refine ⟨_, _, rfl, rfl, Nat.le_trans (Nat.add_le_add c3 b6) (by omega), ?_⟩
  exact fg.i (k _ (Ex.put nw))
/-! errors told -/
section
variable {H : Hp} {Q : VK} {E : XK}
theorem OutOfOrder_raise (T : All K mg) {x y : V} (q : ∀ dx, H dx = none → E (.ref T.OutOfOrder) (some dx) (upd H dx (.xd [("bound", y), ("version", x)]))) : xMk T.OutOfOrder (sp_OutOfOrder___init__ T) [] E [x, y] H := by
  refine ⟨Nat.le_of_ble_eq_true rfl, fun a na => ?_⟩
  unfold sp_OutOfOrder___init__
  refine ⟨rfl, ?_⟩
  walk_at "vc"
  refine ⟨a, [x, y], rfl, Nat.le_of_ble_eq_true rfl, upd_same, ?_⟩
  walk_at "vc"
  refine ⟨a, rfl, .inl ⟨upd_same, fun dx nd ne => ?_⟩⟩
  rw [upd_ne ne] at nd
  walk_at "vc"
  refine ⟨a, rfl, .inr ⟨dx, _, upd_same, by rw [upd_ne ne]; exact upd_same, Nat.le_of_ble_eq_true rfl, ?_⟩⟩
  refine fg.i ⟨rfl, dx, _, by rw [upd_ne ne.symm]; exact upd_same, upd_same, ?_⟩
  rw [err2_heap na ne]
  exact q dx nd
/-- the except clauses of _law_told -/
def hs28 (T : All K mg) : HL := [(T.OutOfOrder, some 4, fun ea ec ed => zRet (rLst (aCons (rC (.str "order")) (aCons (rXf K ea ec ed "version" (rVar 4)) (aCons (rXf K ea ec ed "bound" (rVar 4)) aNil))))),
 (T.SamplingError, some 4, fun ea ec ed => zCons (zSet 5 (rLst (aCons (rB (cIsE2 K ea ec ed) (aCons (rVar 4) (aCons (rC (.ref T.InvalidCapacity)) aNil))) (aCons (rB (cIsE2 K ea ec ed) (aCons (rVar 4) (aCons (rC (.ref T.InvalidNumber)) aNil))) (aCons (rB (cIsE2 K ea ec ed) (aCons (rVar 4) (aCons (rC (.ref T.InvalidVersion)) aNil))) aNil)))))
 (zCons (zIf (tCmp oNeI (rBm K "list" (mCntB K) (rVar 5) (aCons (rC (.bl true)) aNil)) (rC (.int 1)))
 (zRet (rLst (aCons (rC (.str "another")) aNil)))
 (zNil))
 (zRet (rLst (aCons (rBin (oIxL K) (rLst (aCons (rC (.str "size")) (aCons (rC (.str "amount")) (aCons (rC (.str "number")) aNil)))) (rBm K "list" (mIdxB K) (rVar 5) (aCons (rC (.bl true)) aNil))) aNil)))))]
variable {D : Ends} {W : WX} {a0 a1 a2 a3 z4 z5 : Option V} {x y : V} {dx : Addr}
theorem su_order (T : All K mg) (g : H dx = some (.xd [("bound", y), ("version", x)])) (k : ∀ p, H p = none → D.rt (.ref p) (upd H p (.lst [.str "order", x, y]))) : hdM K D W (hs28 T) (.ref T.OutOfOrder) (some dx) [a0, a1, a2, a3, z4, z5] H := by
  refine ⟨true, T.m_OutOfOrder_OutOfOrder, fun _ a => ?_, (fun h => nomatch h)⟩
  walk_at "vc"
  refine ⟨rfl, T.OutOfOrder, dx, _, _, rfl, T.OutOfOrder_f, T.OutOfOrder_nf_version, rfl, g, rfl, ?_⟩
  walk_at "vc"
  refine ⟨rfl, T.OutOfOrder, dx, _, _, rfl, T.OutOfOrder_f, T.OutOfOrder_nf_bound, rfl, g, rfl, ?_⟩
  exact ⟨Nat.le_of_ble_eq_true rfl, fun p np => k p np⟩
theorem su_rest (T : All K mg) {a : Addr} {b0 b1 b2 : Bool} {n : Nat} {z : String} (hl : H a = some (.lst [.bl b0, .bl b1, .bl b2])) (hc : ([b0, b1, b2] : List Bool).count true = 1) (hm : true ∈ [b0, b1, b2]) (hi : ([b0, b1, b2] : List Bool).idxOf true = n) (hn : ([.str "size", .str "amount", .str "number"] : List V)[n]? = some (.str z)) (k : ∀ p H2, Ex H H2 → H2 p = none → D.rt (.ref p) (upd H2 p (.lst [.str z]))) :
    (zCons (zIf (tCmp oNeI (rBm K "list" (mCntB K) (rVar 5) (aCons (rC (.bl true)) aNil)) (rC (.int 1)))
 (zRet (rLst (aCons (rC (.str "another")) aNil)))
 (zNil))
 (zRet (rLst (aCons (rBin (oIxL K) (rLst (aCons (rC (.str "size")) (aCons (rC (.str "amount")) (aCons (rC (.str "number")) aNil)))) (rBm K "list" (mIdxB K) (rVar 5) (aCons (rC (.bl true)) aNil))) aNil)))) D W [a0, a1, a2, a3, z4, some (.ref a)] H := by
  have gl : H a = some (.lst (([b0, b1, b2] : List Bool).map V.bl)) := hl
  walk_at "vc"
  refine ⟨tyL (.of gl), a, [b0, b1, b2], true, rfl, rfl, .of gl, ?_⟩
  rw [hc]
  walk_at "vc"
  refine ⟨(fun h => absurd h (by decide)), fun _ => ?_⟩
  walk_at "vc"
  refine ⟨Nat.le_of_ble_eq_true rfl, fun t nt => ?_⟩
  refine ⟨tyL (.of (Ex.put nt _ _ gl)), a, [b0, b1, b2], true, rfl, rfl, .of (Ex.put nt _ _ gl), hm, Nat.le_of_ble_eq_true rfl, ?_⟩
  rw [hi]
  refine ⟨t, _, n, .str z, rfl, rfl, .of upd_same, atI_nat hn, ?_⟩
  exact ⟨Nat.le_of_ble_eq_true rfl, fun p np => k p _ (Ex.put nt) np⟩
theorem su_size (T : All K mg) (k : ∀ p H2, Ex H H2 → H2 p = none → D.rt (.ref p) (upd H2 p (.lst [.str "size"]))) : hdM K D W (hs28 T) (.ref T.InvalidCapacity) none [a0, a1, a2, a3, z4, z5] H := by
  refine ⟨false, T.m_InvalidCapacity_OutOfOrder, (fun h => nomatch h), fun _ => ⟨true, T.m_InvalidCapacity_SamplingError, fun _ a => ?_, (fun h => nomatch h)⟩⟩
  walk_at "vc"
  refine ⟨_, _, true, rfl, T.InvalidCapacity_x, rfl, .own _, T.i_InvalidCapacity_InvalidCapacity, .inl rfl, ?_⟩
  walk_at "vc"
  refine ⟨_, _, false, rfl, T.InvalidCapacity_x, rfl, .own _, T.i_InvalidCapacity_InvalidNumber, .inl rfl, ?_⟩
  walk_at "vc"
  refine ⟨_, _, false, rfl, T.InvalidCapacity_x, rfl, .own _, T.i_InvalidCapacity_InvalidVersion, .inl rfl, ?_⟩
  refine ⟨Nat.le_of_ble_eq_true rfl, fun l nl => ?_⟩
  exact su_rest T (z := "size") upd_same rfl (by decide) rfl rfl fun p H2 x np => k p H2 ((Ex.put nl).trans x) np
theorem su_amount (T : All K mg) (k : ∀ p H2, Ex H H2 → H2 p = none → D.rt (.ref p) (upd H2 p (.lst [.str "amount"]))) : hdM K D W (hs28 T) (.ref T.InvalidNumber) none [a0, a1, a2, a3, z4, z5] H := by
  refine ⟨false, T.m_InvalidNumber_OutOfOrder, (fun h => nomatch h), fun _ => ⟨true, T.m_InvalidNumber_SamplingError, fun _ a => ?_, (fun h => nomatch h)⟩⟩
  walk_at "vc"
  refine ⟨_, _, false, rfl, T.InvalidNumber_x, rfl, .own _, T.i_InvalidNumber_InvalidCapacity, .inl rfl, ?_⟩
  walk_at "vc"
  refine ⟨_, _, true, rfl, T.InvalidNumber_x, rfl, .own _, T.i_InvalidNumber_InvalidNumber, .inl rfl, ?_⟩
  walk_at "vc"
  refine ⟨_, _, false, rfl, T.InvalidNumber_x, rfl, .own _, T.i_InvalidNumber_InvalidVersion, .inl rfl, ?_⟩
  refine ⟨Nat.le_of_ble_eq_true rfl, fun l nl => ?_⟩
  exact su_rest T (z := "amount") upd_same rfl (by decide) rfl rfl fun p H2 x np => k p H2 ((Ex.put nl).trans x) np
theorem su_number (T : All K mg) (k : ∀ p H2, Ex H H2 → H2 p = none → D.rt (.ref p) (upd H2 p (.lst [.str "number"]))) : hdM K D W (hs28 T) (.ref T.InvalidVersion) none [a0, a1, a2, a3, z4, z5] H := by
  refine ⟨false, T.m_InvalidVersion_OutOfOrder, (fun h => nomatch h), fun _ => ⟨true, T.m_InvalidVersion_SamplingError, fun _ a => ?_, (fun h => nomatch h)⟩⟩
  walk_at "vc"
  refine ⟨_, _, false, rfl, T.InvalidVersion_x, rfl, .own _, T.i_InvalidVersion_InvalidCapacity, .inl rfl, ?_⟩
  walk_at "vc"
  refine ⟨_, _, false, rfl, T.InvalidVersion_x, rfl, .own _, T.i_InvalidVersion_InvalidNumber, .inl rfl, ?_⟩
  walk_at "vc"
  refine ⟨_, _, true, rfl, T.InvalidVersion_x, rfl, .own _, T.i_InvalidVersion_InvalidVersion, .inl rfl, ?_⟩
  refine ⟨Nat.le_of_ble_eq_true rfl, fun l nl => ?_⟩
  exact su_rest T (z := "number") upd_same rfl (by decide) rfl rfl fun p H2 x np => k p H2 ((Ex.put nl).trans x) np
end
/-! calls refused -/
section
variable {H : Hp} {Q : VK} {E : XK} {a kl cl : Addr} {q : Qst} {C : String}
/-- what no function takes -/
structure Bad (H : Hp) (v : V) : Prop where
  ty : ∃ C, Ty H v C
  no : numAt 0 v = false
  nc : isInt v = true → ∃ i, v = .int i ∧ i < 2
theorem Bad.ex {H' : Hp} {v : V} (b : Bad H v) (x : Ex H H') : Bad H' v := ⟨b.ty.imp fun _ h => h.ex x, b.no, b.nc⟩
theorem version_bad (T : All K mg) {v : V} (b : Bad H v) (q : E (.ref T.InvalidVersion) none H) : sp_want_version T [v] H Q E := by
  obtain ⟨C, ht⟩ := b.ty
  exact want_version_ok T ht (fun z => by rw [b.no] at z; cases z) fun _ => q
theorem capacity_bad (T : All K mg) {v : V} (ht : ∃ C, Ty H v C) (hc : isInt v = true → ∃ i, v = .int i ∧ (i < 2 ∨ 9 < i)) (q : E (.ref T.InvalidCapacity) none H) : sp_want_capacity T [v] H Q E := by
  obtain ⟨C, ht⟩ := ht
  unfold sp_want_capacity
  refine ⟨rfl, ?_⟩
  walk_at "vc"
  refine is_int_ok T ht ?_
  walk_at "vc"
  cases hi : isInt v with
  | false =>
    refine ⟨fun _ => ?_, fun z => nomatch z⟩
    walk_at "vc"
    exact ⟨fun _ => ⟨Nat.le_of_ble_eq_true rfl, q⟩, fun z => nomatch z⟩
  | true =>
    obtain ⟨i, rfl, hi2⟩ := hc hi
    refine ⟨(fun z => nomatch z), fun _ => ?_⟩
    walk_at "vc"
    refine ⟨fun h1 => ?_, fun h1 => ?_⟩
    · walk_at "vc"
      have h1 := of_decide_eq_true h1
      refine ⟨fun h2 => ?_, fun h2 => ?_⟩
      · walk_at "vc"
        exact ⟨Nat.le_of_ble_eq_true rfl, q⟩
      · have h2 : i ≤ 9 := by simpa using h2
        omega
    · walk_at "vc"
      exact ⟨fun _ => ⟨Nat.le_of_ble_eq_true rfl, q⟩, fun z => by simp at z⟩
end
section
variable {H : Hp} {Q : VK} {E : XK} {x kl cl : Addr} {q : Qst} {C : String}
def Tells28 (T : All K mg) (H : Hp) (x : Addr) (way : Str) (one other : V) (xs : List V) : Prop := ∀ {H1 : Hp}, Ex H H1 → ∀ {Q : VK} {E : XK}, (∀ H2 p, Ex H1 H2 → H1 p = none → H2 p = some (.lst xs) → Q (.ref p) H2) → sp__law_told T [.str way, .ref x, one, other] H1 Q E
theorem Tells28.ex (T : All K mg) {H' : Hp} {way : Str} {one other : V} {xs : List V} (t : Tells28 T H x way one other xs) (y : Ex H H') : Tells28 T H' x way one other xs := fun {H1} z {Q E} k => t (y.trans z) k
/-- the call asks: push -/
theorem call_push (T : All K mg) {one other : V} (i : ∃ dx, H x = some (.ins T.Queue dx (fsQ q kl cl))) (h : sp_Queue_push T [.ref x, one] H (fun v H' => fg (Q v) H') (fun c d H' => E c d H')) : sp__law_called T [.str "push", .ref x, one, other] H Q E := by
  obtain ⟨dx, i⟩ := i
  unfold sp__law_called
  refine ⟨rfl, ?_⟩
  walk_at "vc"
  refine ⟨fun _ => ?_, fun z => absurd z (by decide)⟩
  walk_at "vc"
  exact ⟨x, dx, _, rfl, i, rfl, h⟩
theorem call_range (T : All K mg) {one other : V} (i : ∃ dx, H x = some (.ins T.Queue dx (fsQ q kl cl))) (h : sp_Queue_push_range T [.ref x, one, other] H (fun v H' => fg (Q v) H') (fun c d H' => E c d H')) : sp__law_called T [.str "range", .ref x, one, other] H Q E := by
  obtain ⟨dx, i⟩ := i
  unfold sp__law_called
  refine ⟨rfl, ?_⟩
  walk_at "vc"
  refine ⟨fun z => absurd z (by decide), fun _ => ?_⟩
  walk_at "vc"
  refine ⟨fun _ => ?_, fun z => absurd z (by decide)⟩
  walk_at "vc"
  exact ⟨x, dx, _, rfl, i, rfl, h⟩
theorem call_advance (T : All K mg) {one other : V} (i : ∃ dx, H x = some (.ins T.Queue dx (fsQ q kl cl))) (h : sp_Queue_advance T [.ref x, one] H (fun v H' => fg (Q v) H') (fun c d H' => E c d H')) : sp__law_called T [.str "advance", .ref x, one, other] H Q E := by
  obtain ⟨dx, i⟩ := i
  unfold sp__law_called
  refine ⟨rfl, ?_⟩
  walk_at "vc"
  refine ⟨fun z => absurd z (by decide), fun _ => ?_⟩
  walk_at "vc"
  refine ⟨fun z => absurd z (by decide), fun _ => ?_⟩
  walk_at "vc"
  refine ⟨fun _ => ?_, fun z => absurd z (by decide)⟩
  walk_at "vc"
  exact ⟨x, dx, _, rfl, i, rfl, h⟩
theorem call_forecast (T : All K mg) {one other : V} (i : ∃ dx, H x = some (.ins T.Queue dx (fsQ q kl cl))) (h : sp_Queue_forecast T [.ref x, one] H (fun v H' => fg (Q v) H') (fun c d H' => E c d H')) : sp__law_called T [.str "forecast", .ref x, one, other] H Q E := by
  obtain ⟨dx, i⟩ := i
  unfold sp__law_called
  refine ⟨rfl, ?_⟩
  walk_at "vc"
  refine ⟨fun z => absurd z (by decide), fun _ => ?_⟩
  walk_at "vc"
  refine ⟨fun z => absurd z (by decide), fun _ => ?_⟩
  walk_at "vc"
  refine ⟨fun z => absurd z (by decide), fun _ => ?_⟩
  walk_at "vc"
  refine ⟨fun _ => ?_, fun z => absurd z (by decide)⟩
  walk_at "vc"
  exact ⟨x, dx, _, rfl, i, rfl, h⟩
theorem call_arrived (T : All K mg) {one other : V} (i : ∃ dx, H x = some (.ins T.Queue dx (fsQ q kl cl))) (h : sp_Queue_arrived T [.ref x, one] H (fun v H' => fg (Q v) H') (fun c d H' => E c d H')) : sp__law_called T [.str "arrived", .ref x, one, other] H Q E := by
  obtain ⟨dx, i⟩ := i
  unfold sp__law_called
  refine ⟨rfl, ?_⟩
  walk_at "vc"
  refine ⟨fun z => absurd z (by decide), fun _ => ?_⟩
  walk_at "vc"
  refine ⟨fun z => absurd z (by decide), fun _ => ?_⟩
  walk_at "vc"
  refine ⟨fun z => absurd z (by decide), fun _ => ?_⟩
  walk_at "vc"
  refine ⟨fun z => absurd z (by decide), fun _ => ?_⟩
  walk_at "vc"
  refine ⟨fun _ => ?_, fun z => absurd z (by decide)⟩
  walk_at "vc"
  exact ⟨x, dx, _, rfl, i, rfl, h⟩
theorem call_drop (T : All K mg) {one other : V} (i : ∃ dx, H x = some (.ins T.Queue dx (fsQ q kl cl))) (h : sp_Queue_drop_of T [.ref x, one] H (fun v H' => fg (Q v) H') (fun c d H' => E c d H')) : sp__law_called T [.str "drop", .ref x, one, other] H Q E := by
  obtain ⟨dx, i⟩ := i
  unfold sp__law_called
  refine ⟨rfl, ?_⟩
  walk_at "vc"
  refine ⟨fun z => absurd z (by decide), fun _ => ?_⟩
  walk_at "vc"
  refine ⟨fun z => absurd z (by decide), fun _ => ?_⟩
  walk_at "vc"
  refine ⟨fun z => absurd z (by decide), fun _ => ?_⟩
  walk_at "vc"
  refine ⟨fun z => absurd z (by decide), fun _ => ?_⟩
  walk_at "vc"
  refine ⟨fun z => absurd z (by decide), fun _ => ?_⟩
  walk_at "vc"
  refine ⟨fun _ => ?_, fun z => absurd z (by decide)⟩
  walk_at "vc"
  exact ⟨x, dx, _, rfl, i, rfl, h⟩
theorem call_new (T : All K mg) {one other : V} (h : ∀ y dx, H y = none → H dx = none → y ≠ dx → ∀ {Q' : VK}, sp_Queue___init__ T [.ref y, one, other] (upd (upd H dx (.own y)) y (.ins T.Queue dx [])) Q' (fun c d H' => E c d H')) : sp__law_called T [.str "new", .ref x, one, other] H Q E := by
  unfold sp__law_called
  refine ⟨rfl, ?_⟩
  walk_at "vc"
  refine ⟨fun z => absurd z (by decide), fun _ => ?_⟩
  walk_at "vc"
  refine ⟨fun z => absurd z (by decide), fun _ => ?_⟩
  walk_at "vc"
  refine ⟨fun z => absurd z (by decide), fun _ => ?_⟩
  walk_at "vc"
  refine ⟨fun z => absurd z (by decide), fun _ => ?_⟩
  walk_at "vc"
  refine ⟨fun z => absurd z (by decide), fun _ => ?_⟩
  walk_at "vc"
  refine ⟨fun z => absurd z (by decide), fun _ => ?_⟩
  walk_at "vc"
  refine ⟨rfl, rfl, ?_⟩
  intro y dx ny nd ne
  exact h y dx ny nd ne.symm
theorem told_number (T : All K mg) {way : Str} {one other : V} (h : ∀ {H1 : Hp}, Ex H H1 → ∀ {Q : VK} {E : XK}, (∀ H2, Ex H1 H2 → E (.ref T.InvalidVersion) none H2) → sp__law_called T [.str way, .ref x, one, other] H1 Q E) : Tells28 T H x way one other [.str "number"] := fun {H1} y {Q E} k => by
  unfold sp__law_told
  refine ⟨rfl, ?_⟩
  walk_at "vc"
  refine h y fun H2 y2 => ?_
  show hdM K _ _ (hs28 T) _ _ _ _
  exact su_number T fun p H3 y3 np => fg.i (k _ p ((y2.trans y3).trans (Ex.put np)) ((y2.trans y3).free np) upd_same)
theorem told_amount (T : All K mg) {way : Str} {one other : V} (h : ∀ {H1 : Hp}, Ex H H1 → ∀ {Q : VK} {E : XK}, (∀ H2, Ex H1 H2 → E (.ref T.InvalidNumber) none H2) → sp__law_called T [.str way, .ref x, one, other] H1 Q E) : Tells28 T H x way one other [.str "amount"] := fun {H1} y {Q E} k => by
  unfold sp__law_told
  refine ⟨rfl, ?_⟩
  walk_at "vc"
  refine h y fun H2 y2 => ?_
  show hdM K _ _ (hs28 T) _ _ _ _
  exact su_amount T fun p H3 y3 np => fg.i (k _ p ((y2.trans y3).trans (Ex.put np)) ((y2.trans y3).free np) upd_same)
theorem told_size (T : All K mg) {way : Str} {one other : V} (h : ∀ {H1 : Hp}, Ex H H1 → ∀ {Q : VK} {E : XK}, (∀ H2, Ex H1 H2 → E (.ref T.InvalidCapacity) none H2) → sp__law_called T [.str way, .ref x, one, other] H1 Q E) : Tells28 T H x way one other [.str "size"] := fun {H1} y {Q E} k => by
  unfold sp__law_told
  refine ⟨rfl, ?_⟩
  walk_at "vc"
  refine h y fun H2 y2 => ?_
  show hdM K _ _ (hs28 T) _ _ _ _
  exact su_size T fun p H3 y3 np => fg.i (k _ p ((y2.trans y3).trans (Ex.put np)) ((y2.trans y3).free np) upd_same)
theorem told_order (T : All K mg) {way : Str} {one other u v : V} (h : ∀ {H1 : Hp}, Ex H H1 → ∀ {Q : VK} {E : XK}, (∀ H2 dx, Ex H1 H2 → H2 dx = none → E (.ref T.OutOfOrder) (some dx) (upd H2 dx (.xd [("bound", v), ("version", u)]))) → sp__law_called T [.str way, .ref x, one, other] H1 Q E) : Tells28 T H x way one other [.str "order", u, v] := fun {H1} y {Q E} k => by
  unfold sp__law_told
  refine ⟨rfl, ?_⟩
  walk_at "vc"
  refine h y fun H2 dx x2 nd => ?_
  have y2 := x2.trans (Ex.put (o := .xd [("bound", v), ("version", u)]) nd)
  show hdM K _ _ (hs28 T) _ _ _ _
  exact su_order T upd_same fun p np => fg.i (k _ p (y2.trans (Ex.put np)) (y2.free np) upd_same)
end
section
variable {H : Hp} {x kl cl : Addr} {q : Qst} {v w : V}
theorem tells_push (T : All K mg) (A : QAt T.Queue H x kl cl q) (b : Bad H v) : Tells28 T H x "push" v w [.str "number"] := told_number T fun {H1} y {Q E} k => by
  refine call_push T (A.ex y).ins ?_
  unfold sp_Queue_push
  refine ⟨rfl, ?_⟩
  walk_at "vc"
  exact version_bad T (b.ex y) (k _ (Ex.refl _))
theorem tells_range1 (T : All K mg) (A : QAt T.Queue H x kl cl q) (b : Bad H v) : Tells28 T H x "range" v w [.str "number"] := told_number T fun {H1} y {Q E} k => by
  refine call_range T (A.ex y).ins ?_
  unfold sp_Queue_push_range
  refine ⟨rfl, ?_⟩
  walk_at "vc"
  exact version_bad T (b.ex y) (k _ (Ex.refl _))
theorem tells_range2 (T : All K mg) (A : QAt T.Queue H x kl cl q) {i : Int} (h0 : 0 ≤ i) (b : Bad H v) : Tells28 T H x "range" (.int i) v [.str "number"] := told_number T fun {H1} y {Q E} k => by
  refine call_range T (A.ex y).ins ?_
  unfold sp_Queue_push_range
  refine ⟨rfl, ?_⟩
  walk_at "vc"
  refine want_version_int T h0 ?_
  walk_at "vc"
  exact version_bad T (b.ex y) (k _ (Ex.refl _))
theorem tells_range3 (T : All K mg) (A : QAt T.Queue H x kl cl q) {i j : Int} (h0 : 0 ≤ j) (h1 : j < i) : Tells28 T H x "range" (.int i) (.int j) [.str "number"] := told_number T fun {H1} y {Q E} k => by
  refine call_range T (A.ex y).ins ?_
  unfold sp_Queue_push_range
  refine ⟨rfl, ?_⟩
  walk_at "vc"
  refine want_version_int T (by omega) ?_
  walk_at "vc"
  refine want_version_int T h0 ?_
  walk_at "vc"
  refine ⟨fun _ => ?_, fun z => absurd (of_decide_eq_false z) (by omega)⟩
  walk_at "vc"
  exact ⟨Nat.le_of_ble_eq_true rfl, k _ (Ex.refl _)⟩
theorem tells_advance (T : All K mg) (A : QAt T.Queue H x kl cl q) (b : Bad H v) : Tells28 T H x "advance" v w [.str "number"] := told_number T fun {H1} y {Q E} k => by
  refine call_advance T (A.ex y).ins ?_
  unfold sp_Queue_advance
  refine ⟨rfl, ?_⟩
  walk_at "vc"
  exact version_bad T (b.ex y) (k _ (Ex.refl _))
theorem tells_arrived (T : All K mg) (A : QAt T.Queue H x kl cl q) (b : Bad H v) : Tells28 T H x "arrived" v w [.str "number"] := told_number T fun {H1} y {Q E} k => by
  refine call_arrived T (A.ex y).ins ?_
  unfold sp_Queue_arrived
  refine ⟨rfl, ?_⟩
  walk_at "vc"
  exact version_bad T (b.ex y) (k _ (Ex.refl _))
theorem tells_drop (T : All K mg) (A : QAt T.Queue H x kl cl q) (b : Bad H v) : Tells28 T H x "drop" v w [.str "number"] := told_number T fun {H1} y {Q E} k => by
  refine call_drop T (A.ex y).ins ?_
  unfold sp_Queue_drop_of
  refine ⟨rfl, ?_⟩
  walk_at "vc"
  exact version_bad T (b.ex y) (k _ (Ex.refl _))
theorem tells_forecast (T : All K mg) (A : QAt T.Queue H x kl cl q) (b : Bad H v) : Tells28 T H x "forecast" v w [.str "amount"] := told_amount T fun {H1} y {Q E} k => by
  obtain ⟨C, ht⟩ := (b.ex y).ty
  refine call_forecast T (A.ex y).ins ?_
  unfold sp_Queue_forecast
  refine ⟨rfl, ?_⟩
  walk_at "vc"
  exact want_number_ok T (.inl rfl) ht (fun z => by rw [b.no] at z; cases z) fun _ => k _ (Ex.refl _)
theorem fresh2 {H1 : Hp} {y dx : Addr} {o o' : HO} (ny : H1 y = none) (nd : H1 dx = none) (ne : y ≠ dx) : Ex H1 (upd (upd H1 dx o) y o') := (Ex.put nd).trans (Ex.put (by rw [upd_ne ne]; exact ny))
theorem tells_new1 (T : All K mg) (ht : ∃ C, Ty H v C) (hc : isInt v = true → ∃ i, v = .int i ∧ (i < 2 ∨ 9 < i)) : Tells28 T H x "new" v w [.str "size"] := told_size T fun {H1} y {Q E} k => by
  refine call_new T fun y1 dx ny nd ne {Q'} => ?_
  have z := fresh2 (o := .own y1) (o' := .ins T.Queue dx []) ny nd ne
  unfold sp_Queue___init__
  refine ⟨rfl, ?_⟩
  walk_at "vc"
  exact capacity_bad T (ht.imp fun _ h => (h.ex y).ex z) hc (k _ z)
theorem tells_new2 (T : All K mg) (b : Bad H v) : Tells28 T H x "new" (.int 2) v [.str "number"] := told_number T fun {H1} y {Q E} k => by
  refine call_new T fun y1 dx ny nd ne {Q'} => ?_
  have z := fresh2 (o := .own y1) (o' := .ins T.Queue dx []) ny nd ne
  unfold sp_Queue___init__
  refine ⟨rfl, ?_⟩
  walk_at "vc"
  refine want_capacity_int T (by omega) (by omega) ?_
  walk_at "vc"
  exact version_bad T ((b.ex y).ex z) (k _ z)
theorem arrive_late (T : All K mg) (A : QAt T.Queue H x kl cl q) {lo hi : Int} {Q : VK} {E : XK} (hl : lo ≤ q.bound) (k : ∀ dx, H dx = none → E (.ref T.OutOfOrder) (some dx) (upd H dx (.xd [("bound", .int q.bound), ("version", .int lo)]))) : sp_Queue_arrive T [.ref x, .int lo, .int hi] H Q E := by
  obtain ⟨dx, i⟩ := A.ins
  unfold sp_Queue_arrive
  refine ⟨rfl, ?_⟩
  walk_at "vc"
  refine ⟨x, dx, _, rfl, i, rfl, Queue_arrival_bound_ok T A ?_⟩
  walk_at "vc"
  refine ⟨fun _ => ?_, fun z => absurd (of_decide_eq_false z) (by omega)⟩
  walk_at "vc"
  refine ⟨x, dx, _, rfl, i, rfl, Queue_arrival_bound_ok T A ?_⟩
  unfold aNil
  dsimp only
  exact OutOfOrder_raise T k
theorem tells_late (T : All K mg) (A : QAt T.Queue H x kl cl q) {lo : Int} (h0 : 0 ≤ lo) (hl : lo ≤ q.bound) : Tells28 T H x "push" (.int lo) w [.str "order", .int lo, .int q.bound] := told_order T fun {H1} y {Q E} k => by
  have A1 := A.ex y
  obtain ⟨dx, i⟩ := A1.ins
  refine call_push T A1.ins ?_
  unfold sp_Queue_push
  refine ⟨rfl, ?_⟩
  walk_at "vc"
  refine want_version_int T h0 ?_
  walk_at "vc"
  obtain ⟨⟨dx1, _⟩, h2, _⟩ := id A1
  refine ⟨x, dx, _, _, rfl, i, rfl, kl, _, rfl, .of h2, fun t nt => ?_⟩
  have y2 := Ex.put (o := .lst (q.kept.map V.int)) nt
  have A2 := A1.ex y2
  obtain ⟨d2, i2⟩ := A2.ins
  walk_at "vc"
  exact ⟨x, d2, _, rfl, i2, rfl, arrive_late T A2 hl fun dx nd => k _ _ y2 nd⟩
theorem tells_late2 (T : All K mg) (A : QAt T.Queue H x kl cl q) {lo hi : Int} (h0 : 0 ≤ lo) (h1 : lo ≤ hi) (hl : lo ≤ q.bound) : Tells28 T H x "range" (.int lo) (.int hi) [.str "order", .int lo, .int q.bound] := told_order T fun {H1} y {Q E} k => by
  have A1 := A.ex y
  obtain ⟨dx, i⟩ := A1.ins
  refine call_range T A1.ins ?_
  unfold sp_Queue_push_range
  refine ⟨rfl, ?_⟩
  walk_at "vc"
  refine want_version_int T h0 ?_
  walk_at "vc"
  refine want_version_int T (by omega) ?_
  walk_at "vc"
  refine ⟨fun z => absurd (of_decide_eq_true z) (by omega), fun _ => ?_⟩
  walk_at "vc"
  exact ⟨x, dx, _, rfl, i, rfl, arrive_late T A1 hl (k _ · (Ex.refl _))⟩
theorem tells_back (T : All K mg) (A : QAt T.Queue H x kl cl q) {g : Int} (h0 : 0 ≤ g) (hl : g ≤ q.mark) : Tells28 T H x "advance" (.int g) w [.str "order", .int g, .int q.mark] := told_order T fun {H1} y {Q E} k => by
  have A1 := A.ex y
  obtain ⟨dx, i⟩ := A1.ins
  refine call_advance T A1.ins ?_
  unfold sp_Queue_advance
  refine ⟨rfl, ?_⟩
  walk_at "vc"
  refine want_version_int T h0 ?_
  walk_at "vc"
  refine ⟨x, dx, _, _, rfl, i, rfl, ?_⟩
  walk_at "vc"
  refine ⟨fun _ => ?_, fun z => absurd (of_decide_eq_false z) (by omega)⟩
  walk_at "vc"
  refine ⟨x, dx, _, _, rfl, i, rfl, ?_⟩
  exact OutOfOrder_raise T (k _ · (Ex.refl _))
end
structure RD where
  t : Addr
  dl : Addr
  way : Str
  one : V
  other : V
  xs : List V
  D : List PyData
structure Row28 (T : All K mg) (G : Hp) (x : Addr) (r : RD) : Prop where
  row : G r.t = some (.tup [.str r.way, r.one, r.other, .ref r.dl])
  due : G r.dl = some (.lst r.xs)
  data : ∀ H, DpAll K H r.xs r.D
  tells : Tells28 T G x r.way r.one r.other r.xs
  lay : ∀ d ∈ r.D, Lay 0 d
theorem Row28.ex {T : All K mg} {H H' : Hp} {a : Addr} {r : RD} (h : Row28 T H a r) (x : Ex H H') : Row28 T H' a r := ⟨x _ _ h.row, x _ _ h.due, h.data, Tells28.ex T h.tells x, h.lay⟩
abbrev rowT (r : RD) : V := .ref r.t
theorem dps_of {K : PySem.W.Frag} {H : Hp} : ∀ {ys : List V} {ds : List PyData}, ys.length = ds.length → (∀ (k : Nat) (y : V) (d : PyData), ys[k]? = some y → ds[k]? = some d → Dp K H y d) → DpAll K H ys ds
  | [], [], _, _ => .nil
  | y :: ys, d :: ds, e, h => .cons (h 0 y d rfl rfl) (dps_of (by simpa using e) fun k y d a b => h (k + 1) y d (by simpa using a) (by simpa using b))
/-- the told lists -/
theorem lc_told (T : All K mg) {a : Addr} {rs : List RD} {H : Hp} {Q : VK} {z0 z2 z3 z4 z5 z6 z7 z8 z9 z10 z11 z12 z13 : Option V} {E : Hp → Prop} (hG : ∀ H', Ex H H' → E H') (hn : rs.length ≤ 1000) (hr : ∀ r ∈ rs, Row28 T H a r)
    (done : ∀ ys q H', Ex H H' → DpAll K H' ys (rs.map fun r => .list r.D) → H' q = none → Q (.ref q) (upd H' q (.lst ys))) :
    LcB (rs.map rowT).length E (yAt (rs.map rowT)) (gTup K 4 (gCons (gName 9) (gCons (gName 10) (gCons (gName 11) (gCons (gName 12) gNil))))) tY (rCall (sp__law_told T) [] (aCons (rVar 9) (aCons (rVar 1) (aCons (rVar 10) (aCons (rVar 11) aNil))))) [9, 10, 11, 12] [z0, some (.ref a), z2, z3, z4, z5, z6, z7, z8, z9, z10, z11, z12, z13] H Q := by
  refine lcB (fun i acc H' => Ex H H' ∧ acc.length = i ∧ ∀ (k : Nat) (y : V) (r : RD), acc[k]? = some y → rs[k]? = some r → Dp K H' y (.list r.D)) ⟨Ex.refl _, rfl, fun k y r z => by simp at z⟩ (fun i acc H' hi p => ⟨hG _ p.1, by have := p.2.1; rw [List.length_map] at hi; omega⟩) (fun i acc H' d hi pv nd => ?_) fun acc H' q pv nq => ?_
  · obtain ⟨x1, hl2, hp⟩ := pv
    intro x hx
    rw [List.getElem?_map] at hx
    obtain ⟨r, hr1, rfl⟩ := Option.map_eq_some_iff.mp hx
    have R := hr r (List.mem_of_getElem? hr1)
    have x2 := x1.trans (Ex.put (o := .lst acc) nd)
    refine ⟨r.t, _, rfl, .inl (.of (x2 _ _ R.row)), rfl, ?_⟩
    refine ⟨rfl, rfl, fun _ => ?_, (fun z => nomatch z)⟩
    walk_at "vc"
    refine R.tells x2 fun H2 q x3 nq gq => ?_
    have e3 : H2 d = some (.lst acc) := x3 _ _ upd_same
    have x4 : Ex H' (del H2 d) := fun b o e => by
      rw [del_ne (ne_of_none e nd)]
      exact x3 _ _ (by rw [upd_ne (ne_of_none e nd)]; exact e)
    have nqd : q ≠ d := fun e => by
      rw [e, upd_same] at nq
      cases nq
    refine ⟨del H2 d, del_same, fun b o e => ?_, x1.trans x4, by simp [hl2], fun k y r2 hk hr2 => ?_⟩
    · by_cases z : b = d
      · subst z
        rw [upd_same] at e
        cases e
        exact e3
      · rw [upd_ne z, del_ne z] at e
        exact e
    · by_cases z : k < i
      · rw [List.getElem?_append_left (by omega)] at hk
        exact Dp.ex x4 (hp k y r2 hk hr2)
      · have ek : k = i := by
          have := (List.getElem?_eq_some_iff.mp hk).1
          rw [List.length_append, List.length_singleton] at this
          omega
        subst ek
        rw [List.getElem?_append_right (by omega), hl2, Nat.sub_self] at hk
        cases hk
        rw [hr1] at hr2
        cases hr2
        exact .lst (.of (by rw [del_ne nqd]; exact gq)) (R.data _)
  · obtain ⟨x1, hl2, hp⟩ := pv
    refine done acc q H' x1 (dps_of (by rw [hl2, List.length_map, List.length_map]) fun k y d a b => ?_) nq
    rw [List.getElem?_map] at b
    obtain ⟨r, hr1, rfl⟩ := Option.map_eq_some_iff.mp b
    exact hp k y r a hr1
/-- the rows while they are gathered; Hb: what stood before, without the pot -/
structure RG28 (T : All K mg) (Hb H : Hp) (p : Addr) (s : PS) (x : Addr) (bad : V) (rp : Addr) (rs : List RD) (n : Nat) : Prop where
  ex : ∃ G, Ex Hb G ∧ G p = none ∧ G rp = none ∧ Ex G H ∧ Bad G bad ∧ ∀ r ∈ rs, Row28 T G x r
  hp : H p = some (potL s)
  ps : PotX s
  gl : H rp = some (.lst (rs.map rowT))
  ne : p ≠ rp
  len : rs.length ≤ n
section
variable {T : All K mg} {Hb H H1 : Hp} {p x rp q : Addr} {s : PS} {bad : V} {rs rs2 : List RD} {n : Nat}
theorem RG28.grow (g : RG28 T Hb H p s x bad rp rs n) (y : Ex H H1) : RG28 T Hb H1 p s x bad rp rs n := by
  obtain ⟨⟨G, x1, n1, n2, x2, c, r⟩, hp, ps, gl, ne, hl⟩ := g
  exact ⟨⟨G, x1, n1, n2, x2.trans y, c, r⟩, y _ _ hp, ps, y _ _ gl, ne, hl⟩
theorem RG28.dig (g : RG28 T Hb H p s x bad rp rs n) {m : Int} (hm : 1 ≤ m) : RG28 T Hb (upd H p (potL (dgS s m))) p (dgS s m) x bad rp rs n := by
  obtain ⟨⟨G, x1, n1, n2, x2, c, r⟩, hp, ps, gl, ne, hl⟩ := g
  refine ⟨⟨G, x1, n1, n2, fun b o e => ?_, c, r⟩, upd_same, ps.dig hm, by rw [upd_ne ne.symm]; exact gl, ne, hl⟩
  rw [upd_ne (ne_of_none e n1)]
  exact x2 _ _ e
theorem RG28.b (g : RG28 T Hb H p s x bad rp rs n) : Bad H bad := by
  obtain ⟨⟨G, x1, n1, n2, x2, c, r⟩, hp, ps, gl, ne, hl⟩ := g
  exact c.ex x2
theorem RG28.xb (g : RG28 T Hb H p s x bad rp rs n) : Ex Hb H := by
  obtain ⟨⟨G, x1, n1, n2, x2, c, r⟩, hp, ps, gl, ne, hl⟩ := g
  exact x1.trans x2
theorem RG28.rows (g : RG28 T Hb H p s x bad rp rs n) : ∀ r ∈ rs, Row28 T H x r := by
  obtain ⟨⟨G, x1, n1, n2, x2, c, r⟩, hp, ps, gl, ne, hl⟩ := g
  exact fun z hz => (r z hz).ex x2
theorem RG28.cat (g : RG28 T Hb H p s x bad rp rs n) (y : Ex H H1) (h2 : ∀ G2, Ex Hb G2 → Bad G2 bad → (∀ b o, b ≠ p → H1 b = some o → G2 b = some o) → ∀ r ∈ rs2, Row28 T G2 x r) (nq : H1 q = none) : RG28 T Hb (upd H1 q (.lst (rs.map rowT ++ rs2.map rowT))) p s x bad q (rs ++ rs2) (n + rs2.length) := by
  obtain ⟨⟨G, x1, n1, n2, x2, c, r⟩, hp, ps, gl, ne, hl⟩ := g
  have npq : p ≠ q := ne_of_none (y _ _ hp) nq
  have z : Ex G (del H1 p) := fun b o e => by
    rw [del_ne (ne_of_none e n1)]
    exact y _ _ (x2 _ _ e)
  refine ⟨⟨del H1 p, x1.trans z, del_same, by rw [del_ne npq.symm]; exact nq, fun b o e => ?_, c.ex z, fun w hw => (List.mem_append.mp hw).elim (fun h => (r w h).ex z) (h2 _ (x1.trans z) (c.ex z) (fun b o nb e => by rw [del_ne nb]; exact e) w)⟩, by rw [upd_ne npq]; exact y _ _ hp, ps, by rw [upd_same, List.map_append], npq, by rw [List.length_append]; omega⟩
  have nb : b ≠ p := fun z => by
    rw [z, del_same] at e
    cases e
  rw [del_ne nb] at e
  rw [upd_ne (ne_of_none e nq)]
  exact e
theorem RG28.app {r : RD} (g : RG28 T Hb H p s x bad rp rs n) (y : Ex H H1) (h2 : ∀ G2, Ex Hb G2 → (∀ b o, b ≠ p → b ≠ rp → H1 b = some o → G2 b = some o) → Row28 T G2 x r) : RG28 T Hb (upd H1 rp (.lst (rs.map rowT ++ [rowT r]))) p s x bad rp (rs ++ [r]) (n + 1) := by
  obtain ⟨⟨G, x1, n1, n2, x2, c, rr⟩, hp, ps, gl, ne, hl⟩ := g
  have z : Ex G (del (del H1 p) rp) := fun b o e => by
    rw [del_ne (ne_of_none e n2), del_ne (ne_of_none e n1)]
    exact y _ _ (x2 _ _ e)
  refine ⟨⟨del (del H1 p) rp, x1.trans z, by rw [del_ne ne]; exact del_same, del_same, fun b o e => ?_, c.ex z, fun w hw => (List.mem_append.mp hw).elim (fun h => (rr w h).ex z) fun h => ?_⟩, by rw [upd_ne ne]; exact y _ _ hp, ps, by rw [upd_same, List.map_append]; rfl, ne, by rw [List.length_append, List.length_singleton]; omega⟩
  · have nb : b ≠ rp := fun z => by
      rw [z, del_same] at e
      cases e
    rw [del_ne nb] at e
    have nb2 : b ≠ p := fun z => by
      rw [z, del_same] at e
      cases e
    rw [del_ne nb2] at e
    rw [upd_ne nb]
    exact e
  · rw [List.mem_singleton.mp h]
    exact h2 _ (x1.trans z) fun b o nb nb2 e => by rw [del_ne nb2, del_ne nb]; exact e
end
section
variable {T : All K mg} {Hb H : Hp} {p x rp kl cl : Addr} {q : Qst} {s : PS} {bad : V} {rs : List RD} {n : Nat} {D : Ends} {W : WX} {z2 z3 z4 z5 z6 z7 z8 z9 z10 z11 z12 z13 : Option V}
theorem k3_ok (g : RG28 T Hb H p s x bad rp rs 17) (kq : ∀ H', Ex Hb H' → D.rt (.bl true) H') : k3__law_refused_right T D W [some (.ref p), some (.ref x), z2, z3, z4, z5, z6, some (.ref rp), z8, z9, z10, z11, z12, z13] H := by
  have ln := g.len
  have lay : Lay 2 (.list (rs.map fun r => PyData.list r.D)) := Lay.lst fun d hd => by
    obtain ⟨r, hr, rfl⟩ := List.mem_map.mp hd
    exact Lay.lst (g.rows r hr).lay
  unfold k3__law_refused_right
  walk_at "vc"
  refine ⟨rp, _, rfl, .of g.gl, ?_⟩
  refine lc_told T (fun H' y => .of (y _ _ g.gl)) (by omega) g.rows fun ys q1 H1 x1 hd nq => ?_
  have x2 := x1.trans (Ex.put (o := .lst ys) nq)
  have hd := DpAll.ex (Ex.put (o := .lst ys) nq) hd
  have hq : upd H1 q1 (.lst ys) q1 = some (.lst ys) := upd_same
  generalize upd H1 q1 (.lst ys) = H2 at x2 hd hq ⊢
  have g2 := g.grow x2
  walk_at "vc"
  refine ⟨rp, _, rfl, .of g2.gl, ?_⟩
  refine lc_map0 (fun r => .ref r.dl) (by omega) (.of g2.gl) (fun r e acc R0 hr ne k => ?_) fun q2 nq2 => ?_
  · walk_at "vc"
    refine ⟨r.t, _, 3, _, rfl, rfl, .of (Ex.put ne _ _ (g2.rows r hr).row), rfl, ?_⟩
    exact k _ (Ex.refl _)
  have x3 := Ex.put (o := .lst (rs.map fun r => V.ref r.dl)) nq2
  refine ⟨_, .list (rs.map fun r => .list r.D), .lst (.of (x3 _ _ hq)) (DpAll.ex x3 hd), .lst (.of upd_same) (dps_of (by simp) fun k y e hy he => ?_), lay.shaped (by decide), lay.shaped (by decide), ?_⟩
  · rw [List.getElem?_map] at hy he
    obtain ⟨r, hr1, rfl⟩ := Option.map_eq_some_iff.mp hy
    rw [hr1] at he
    cases he
    have Rr := g2.rows r (List.mem_of_getElem? hr1)
    exact .lst (.of (x3 _ _ Rr.due)) (Rr.data _)
  rw [data_same (lay.shaped (by decide))]
  exact kq _ (g.xb.trans (x2.trans x3))
/-- `rows.append((way, one, other, due))` -/
theorem app_row {way : Str} {one other : V} {xs : List V} {Dd : List PyData} (g : RG28 T Hb H p s x bad rp rs n) (hn : n ≤ 40) (hdp : ∀ H, DpAll K H xs Dd) (hl : ∀ d ∈ Dd, Lay 0 d) (ht : Tells28 T Hb x way one other xs) {t dl : Addr} {H1 : Hp} (y : Ex H H1) (e1 : H1 t = some (.tup [.str way, one, other, .ref dl])) (e2 : H1 dl = some (.lst xs)) (n1 : H dl = none) :
    RG28 T Hb (upd H1 rp (.lst (rs.map rowT ++ [.ref t]))) p s x bad rp (rs ++ [⟨t, dl, way, one, other, xs, Dd⟩]) (n + 1) :=
  g.app (r := ⟨t, dl, way, one, other, xs, Dd⟩) y fun G2 xb f => ⟨f _ _ (ne_kind e1 (y _ _ g.hp) (fun e => by cases e)) (ne_kind e1 (y _ _ g.gl) (fun e => by cases e)) e1, f _ _ (ne_of_none g.hp n1).symm (ne_of_none g.gl n1).symm e2, hdp, Tells28.ex T ht xb, hl⟩
theorem k45_ok (g : RG28 T Hb H p s x bad rp rs 16) (A : QAt T.Queue Hb x kl cl q) (kq : ∀ H', Ex Hb H' → D.rt (.bl true) H') : k5__law_refused_right T D W [some (.ref p), some (.ref x), z2, z3, z4, z5, z6, some (.ref rp), z8, z9, z10, z11, z12, z13] H := by
  have A1 := A.ex g.xb
  obtain ⟨dx, i⟩ := A1.ins
  unfold k5__law_refused_right
  walk_at "vc"
  refine ⟨x, dx, _, rfl, i, rfl, Queue_passed_ok T A1 ?_⟩
  unfold k4__law_refused_right
  walk_at "vc"
  refine ⟨fun h => ?_, fun h => ?_⟩
  · have h := of_decide_eq_true h
    walk_at "vc"
    refine digit_x T g.hp g.ps (by walk_at "G:dig") ?_
    have hd := dgV_b (s := s) (m := 3) (by decide)
    have g2 := g.dig (m := 3) (by decide)
    generalize upd H p (potL (dgS s 3)) = H1 at g2 ⊢
    walk_at "vc"
    obtain ⟨lo, el, l0, l1⟩ : ∃ lo : Int, (if q.mark - dgV s 3 > 0 then q.mark - dgV s 3 else 0) = lo ∧ 0 ≤ lo ∧ lo ≤ q.mark := ⟨_, rfl, by split <;> omega, by split <;> omega⟩
    rw [el]
    refine ⟨⟨_, g2.gl⟩, ?_⟩
    refine ⟨Nat.le_of_ble_eq_true rfl, fun t1 n1 => ?_⟩
    refine ⟨Nat.le_of_ble_eq_true rfl, fun t2 n2 => ?_⟩
    have y := (Ex.put (o := .lst [.str "order", .int lo, .int q.mark]) n1).trans (Ex.put (o := .tup [.str "advance", .int lo, .int 0, .ref t1]) n2)
    have e1 : upd (upd H1 t1 (.lst [.str "order", .int lo, .int q.mark])) t2 (.tup [.str "advance", .int lo, .int 0, .ref t1]) t2 = some (.tup [.str "advance", .int lo, .int 0, .ref t1]) := upd_same
    have e2 : upd (upd H1 t1 (.lst [.str "order", .int lo, .int q.mark])) t2 (.tup [.str "advance", .int lo, .int 0, .ref t1]) t1 = some (.lst [.str "order", .int lo, .int q.mark]) := hp_ne n2 upd_same
    generalize upd (upd H1 t1 (.lst [.str "order", .int lo, .int q.mark])) t2 (.tup [.str "advance", .int lo, .int 0, .ref t1]) = H2 at y e1 e2 ⊢
    refine ⟨_, y _ _ g2.gl, by have := g.len; rw [List.length_map]; omega, ?_⟩
    exact k3_ok (app_row g2 (by decide) (Dd := [.str "order", .int lo, .int q.mark]) (fun H => .cons (.str _) (.cons (.int _) (.cons (.int _) .nil))) (fun d hd => by
      simp only [List.mem_cons, List.not_mem_nil, or_false] at hd
      rcases hd with rfl | rfl | rfl
      · exact .str (ok_str _)
      · exact .int
      · exact .int) (tells_back T A l0 l1) y e1 e2 n1) kq
  · unfold zNil
    dsimp only
    exact k3_ok ⟨g.ex, g.hp, g.ps, g.gl, g.ne, by have := g.len; omega⟩ kq
theorem k6_ok (g : RG28 T Hb H p s x bad rp rs 13) (A : QAt T.Queue Hb x kl cl q) {lo : Int} (l0 : 0 ≤ lo) (l1 : 0 ≤ q.bound → lo ≤ q.bound) (kq : ∀ H', Ex Hb H' → D.rt (.bl true) H') : k6__law_refused_right T D W [some (.ref p), some (.ref x), z2, some (.int q.bound), z4, some (.int (q.bound + 1)), some (.int lo), some (.ref rp), z8, z9, z10, z11, z12, z13] H := by
  unfold k6__law_refused_right
  walk_at "vc"
  refine ⟨fun h => ?_, fun h => ?_⟩
  · have h := of_decide_eq_true h
    have l1 := l1 h
    walk_at "vc"
    refine ⟨Nat.le_of_ble_eq_true rfl, fun t1 n1 => ?_⟩
    have y1 := Ex.put (o := .lst [.str "order", .int lo, .int q.bound]) n1
    have m1 : upd H t1 (.lst [.str "order", .int lo, .int q.bound]) t1 = some (.lst [.str "order", .int lo, .int q.bound]) := upd_same
    generalize upd H t1 (.lst [.str "order", .int lo, .int q.bound]) = H1 at y1 m1 ⊢
    refine ⟨Nat.le_of_ble_eq_true rfl, fun t2 n2 => ?_⟩
    have y2 := y1.trans (Ex.put (o := .tup [.str "push", .int lo, .int 0, .ref t1]) n2)
    have m1 := Ex.put (o := .tup [.str "push", .int lo, .int 0, .ref t1]) n2 _ _ m1
    have m2 : upd H1 t2 (.tup [.str "push", .int lo, .int 0, .ref t1]) t2 = some (.tup [.str "push", .int lo, .int 0, .ref t1]) := upd_same
    generalize upd H1 t2 (.tup [.str "push", .int lo, .int 0, .ref t1]) = H2 at y2 m1 m2 ⊢
    refine ⟨Nat.le_of_ble_eq_true rfl, fun t3 n3 => ?_⟩
    have y3 := Ex.put (o := .lst [.str "order", .int lo, .int q.bound]) n3
    have m1 := y3 _ _ m1
    have m2 := y3 _ _ m2
    have m3 : upd H2 t3 (.lst [.str "order", .int lo, .int q.bound]) t3 = some (.lst [.str "order", .int lo, .int q.bound]) := upd_same
    have y3 := y2.trans y3
    generalize upd H2 t3 (.lst [.str "order", .int lo, .int q.bound]) = H3 at y3 m1 m2 m3 ⊢
    refine ⟨Nat.le_of_ble_eq_true rfl, fun t4 n4 => ?_⟩
    have y4 := Ex.put (o := .tup [.str "range", .int lo, .int (q.bound + 1 + 5), .ref t3]) n4
    have m1 := y4 _ _ m1
    have m2 := y4 _ _ m2
    have m3 := y4 _ _ m3
    have m4 : upd H3 t4 (.tup [.str "range", .int lo, .int (q.bound + 1 + 5), .ref t3]) t4 = some (.tup [.str "range", .int lo, .int (q.bound + 1 + 5), .ref t3]) := upd_same
    have y4 := y3.trans y4
    generalize upd H3 t4 (.tup [.str "range", .int lo, .int (q.bound + 1 + 5), .ref t3]) = H4 at y4 m1 m2 m3 m4 ⊢
    refine ⟨Nat.le_of_ble_eq_true rfl, fun t5 n5 => ?_⟩
    have y5 := Ex.put (o := .lst [.ref t2, .ref t4]) n5
    have m1 := y5 _ _ m1
    have m2 := y5 _ _ m2
    have m3 := y5 _ _ m3
    have m4 := y5 _ _ m4
    have m5 : upd H4 t5 (.lst [.ref t2, .ref t4]) t5 = some (.lst [.ref t2, .ref t4]) := upd_same
    have y5 := y4.trans y5
    generalize upd H4 t5 (.lst [.ref t2, .ref t4]) = H5 at y5 m1 m2 m3 m4 m5 ⊢
    have g5 := g.grow y5
    refine ⟨rp, t5, _, _, rfl, rfl, g5.gl, m5, by have := g.len; rw [List.length_map]; simp; omega, fun q1 nq => ?_⟩
    have lay3 : ∀ d ∈ [PyData.str "order", .int lo, .int q.bound], Lay 0 d := fun d hd => by
      simp only [List.mem_cons, List.not_mem_nil, or_false] at hd
      rcases hd with rfl | rfl | rfl
      · exact .str (ok_str _)
      · exact .int
      · exact .int
    have g6 := g.cat (rs2 := [⟨t2, t1, "push", .int lo, .int 0, [.str "order", .int lo, .int q.bound], [.str "order", .int lo, .int q.bound]⟩, ⟨t4, t3, "range", .int lo, .int (q.bound + 1 + 5), [.str "order", .int lo, .int q.bound], [.str "order", .int lo, .int q.bound]⟩]) y5 (fun G2 xb bb f r hr => by
      simp only [List.mem_cons, List.not_mem_nil, or_false] at hr
      rcases hr with rfl | rfl
      · exact ⟨f _ _ (ne_kind m2 (y5 _ _ g.hp) (fun e => by cases e)) m2, f _ _ (ne_of_none g.hp n1).symm m1, fun H => .cons (.str _) (.cons (.int _) (.cons (.int _) .nil)), tells_late T (A.ex xb) l0 l1, lay3⟩
      · exact ⟨f _ _ (ne_kind m4 (y5 _ _ g.hp) (fun e => by cases e)) m4, f _ _ (ne_of_none (y2 _ _ g.hp) n3).symm m3, fun H => .cons (.str _) (.cons (.int _) (.cons (.int _) .nil)), tells_late2 T (A.ex xb) l0 (by omega) l1, lay3⟩) nq
    show zCons _ _ _ _ _ (upd H5 q1 (.lst (rs.map rowT ++ [.ref t2, .ref t4])))
    have g6 : RG28 T Hb (upd H5 q1 (.lst (rs.map rowT ++ [.ref t2, .ref t4]))) p s x bad q1 _ 15 := g6
    generalize upd H5 q1 (.lst (rs.map rowT ++ [.ref t2, .ref t4])) = H6 at g6 ⊢
    walk_at "vc"
    refine ⟨⟨_, g6.gl⟩, ?_⟩
    refine ⟨Nat.le_of_ble_eq_true rfl, fun t6 n6 => ?_⟩
    refine ⟨Nat.le_of_ble_eq_true rfl, fun t7 n7 => ?_⟩
    have y := (Ex.put (o := .lst [.str "number"]) n6).trans (Ex.put (o := .tup [.str "range", .int (lo + 1), .int lo, .ref t6]) n7)
    have e1 : upd (upd H6 t6 (.lst [.str "number"])) t7 (.tup [.str "range", .int (lo + 1), .int lo, .ref t6]) t7 = some (.tup [.str "range", .int (lo + 1), .int lo, .ref t6]) := upd_same
    have e2 : upd (upd H6 t6 (.lst [.str "number"])) t7 (.tup [.str "range", .int (lo + 1), .int lo, .ref t6]) t6 = some (.lst [.str "number"]) := hp_ne n7 upd_same
    generalize upd (upd H6 t6 (.lst [.str "number"])) t7 (.tup [.str "range", .int (lo + 1), .int lo, .ref t6]) = H7 at y e1 e2 ⊢
    refine ⟨_, y _ _ g6.gl, by have := g6.len; rw [List.length_map]; omega, ?_⟩
    exact k45_ok (app_row g6 (by decide) (Dd := [.str "number"]) (fun H => .cons (.str _) .nil) (fun d hd => by
      rw [List.mem_singleton.mp hd]
      exact .str (ok_str _)) (tells_range3 T A l0 (by omega)) y e1 e2 n6) A kq
  · unfold zNil
    dsimp only
    exact k45_ok ⟨g.ex, g.hp, g.ps, g.gl, g.ne, by have := g.len; omega⟩ A kq
end
section
variable {T : All K mg} {Hb H : Hp} {p x rp kl cl : Addr} {q : Qst} {s : PS} {bad : V} {rs : List RD} {n : Nat} {D : Ends} {W : WX} {z2 z3 z4 z5 z6 z7 z8 z9 z10 z11 z12 z13 : Option V}
theorem k7_ok (g : RG28 T Hb H p s x bad rp rs 11) (A : QAt T.Queue Hb x kl cl q) {lo : Int} (l0 : 0 ≤ lo) (l1 : 0 ≤ q.bound → lo ≤ q.bound) (kq : ∀ H', Ex Hb H' → D.rt (.bl true) H') : k7__law_refused_right T D W [some (.ref p), some (.ref x), z2, some (.int q.bound), some bad, some (.int (q.bound + 1)), some (.int lo), some (.ref rp), z8, z9, z10, z11, z12, z13] H := by
  have e30 : (10 : Int) ^ (30 : Int).toNat = 1000000000000000000000000000000 := by decide +kernel
  unfold k7__law_refused_right
  walk_at "vc"
  refine ⟨by walk_at "G:pow", ?_⟩
  rw [e30]
  refine ⟨Nat.le_of_ble_eq_true rfl, fun l nl => ?_⟩
  have npl : p ≠ l := ne_of_none g.hp nl
  have g1 := g.grow (Ex.put (o := .lst [.int 0, .int 1, .int 10, .int 11, .int 1000000000000000000000000000000]) nl)
  have hl : upd H l (.lst [.int 0, .int 1, .int 10, .int 11, .int 1000000000000000000000000000000]) l = some (.lst (([0, 1, 10, 11, 1000000000000000000000000000000] : List Int).map V.int)) := upd_same
  generalize upd H l (.lst [.int 0, .int 1, .int 10, .int 11, .int 1000000000000000000000000000000]) = H1 at g1 hl ⊢
  refine pick_i T g1.hp g1.ps hl (by simp) (by simp) npl ?_
  have mm := pkI_mem (s := s) (xs := [0, 1, 10, 11, 1000000000000000000000000000000]) (by simp)
  have g2 := g1.dig (m := 5) (by decide)
  generalize pkI s [0, 1, 10, 11, 1000000000000000000000000000000] = c at mm ⊢
  have hc : c < 2 ∨ 9 < c := by
    simp only [List.mem_cons, List.not_mem_nil, or_false] at mm
    omega
  show aCons _ _ _ (upd H1 p (potL (dgS s 5))) _ _
  generalize upd H1 p (potL (dgS s 5)) = H2 at g2 ⊢
  generalize dgS s 5 = s2 at g2
  walk_at "vc"
  refine ⟨Nat.le_of_ble_eq_true rfl, fun d0 nd0 => ?_⟩
  have y := Ex.put (o := .lst [.str "size"]) nd0
  have md0 : upd H2 d0 (.lst [.str "size"]) d0 = some (.lst [.str "size"]) := upd_same
  have yy := y
  generalize upd H2 d0 (.lst [.str "size"]) = J0 at yy md0 ⊢
  have ppd0 := g2.hp
  clear y
  refine ⟨Nat.le_of_ble_eq_true rfl, fun t0 nt0 => ?_⟩
  have y := Ex.put (o := .tup [.str "new", .int c, bad, .ref d0]) nt0
  have md0 := y _ _ md0
  have mt0 : upd J0 t0 (.tup [.str "new", .int c, bad, .ref d0]) t0 = some (.tup [.str "new", .int c, bad, .ref d0]) := upd_same
  have ppt0 := yy _ _ g2.hp
  have yy := yy.trans y
  generalize upd J0 t0 (.tup [.str "new", .int c, bad, .ref d0]) = J1 at yy md0 mt0 ⊢
  clear y
  refine ⟨Nat.le_of_ble_eq_true rfl, fun d1 nd1 => ?_⟩
  have y := Ex.put (o := .lst [.str "number"]) nd1
  have md0 := y _ _ md0
  have mt0 := y _ _ mt0
  have md1 : upd J1 d1 (.lst [.str "number"]) d1 = some (.lst [.str "number"]) := upd_same
  have ppd1 := yy _ _ g2.hp
  have yy := yy.trans y
  generalize upd J1 d1 (.lst [.str "number"]) = J2 at yy md0 mt0 md1 ⊢
  clear y
  refine ⟨Nat.le_of_ble_eq_true rfl, fun t1 nt1 => ?_⟩
  have y := Ex.put (o := .tup [.str "new", .int 2, bad, .ref d1]) nt1
  have md0 := y _ _ md0
  have mt0 := y _ _ mt0
  have md1 := y _ _ md1
  have mt1 : upd J2 t1 (.tup [.str "new", .int 2, bad, .ref d1]) t1 = some (.tup [.str "new", .int 2, bad, .ref d1]) := upd_same
  have ppt1 := yy _ _ g2.hp
  have yy := yy.trans y
  generalize upd J2 t1 (.tup [.str "new", .int 2, bad, .ref d1]) = J3 at yy md0 mt0 md1 mt1 ⊢
  clear y
  have lay1 : ∀ {z : String}, ∀ d ∈ [PyData.str z], Lay 0 d := fun {z} d hd => by
    rw [List.mem_singleton.mp hd]
    exact .str (ok_str _)
  refine ⟨Nat.le_of_ble_eq_true rfl, fun w nw => ?_⟩
  have y := Ex.put (o := .lst [.ref t0, .ref t1]) nw
  have md0 := y _ _ md0
  have mt0 := y _ _ mt0
  have md1 := y _ _ md1
  have mt1 := y _ _ mt1
  have mw : upd J3 w (.lst [.ref t0, .ref t1]) w = some (.lst [.ref t0, .ref t1]) := upd_same
  have ppw := yy _ _ g2.hp
  have yy := yy.trans y
  generalize upd J3 w (.lst [.ref t0, .ref t1]) = J4 at yy md0 mt0 md1 mt1 mw ⊢
  clear y
  have g5 := g2.grow yy
  refine ⟨rp, w, _, _, rfl, rfl, g5.gl, mw, by have := g2.len; rw [List.length_map]; simp; omega, fun q1 nq => ?_⟩
  have g6 := g2.cat (rs2 := [⟨t0, d0, "new", .int c, bad, [.str "size"], [.str "size"]⟩, ⟨t1, d1, "new", .int 2, bad, [.str "number"], [.str "number"]⟩]) yy (fun G2 xb bb f r hr => by
    simp only [List.mem_cons, List.not_mem_nil, or_false] at hr
    rcases hr with rfl | rfl
    · exact ⟨f _ _ (ne_kind mt0 (yy _ _ g2.hp) (fun e => by cases e)) mt0, f _ _ (ne_of_none ppd0 nd0).symm md0, fun H => .cons (.str _) .nil, tells_new1 T ⟨_, .int c⟩ fun _ => ⟨c, rfl, hc⟩, lay1⟩
    · exact ⟨f _ _ (ne_kind mt1 (yy _ _ g2.hp) (fun e => by cases e)) mt1, f _ _ (ne_of_none ppd1 nd1).symm md1, fun H => .cons (.str _) .nil, tells_new2 T bb, lay1⟩
  ) nq
  exact k6_ok g6 A l0 l1 kq

theorem k8_ok (g : RG28 T Hb H p s x bad rp rs 8) (A : QAt T.Queue Hb x kl cl q) (b0 : -1 ≤ q.bound) {lo : Int} (l0 : 0 ≤ lo) (l1 : 0 ≤ q.bound → lo ≤ q.bound) (kq : ∀ H', Ex Hb H' → D.rt (.bl true) H') : k8__law_refused_right T D W [some (.ref p), some (.ref x), z2, some (.int q.bound), some bad, some (.int (q.bound + 1)), some (.int lo), some (.ref rp), z8, z9, z10, z11, z12, z13] H := by
  unfold k8__law_refused_right
  walk_at "vc"
  refine ⟨Nat.le_of_ble_eq_true rfl, fun d0 nd0 => ?_⟩
  have y := Ex.put (o := .lst [.str "number"]) nd0
  have md0 : upd H d0 (.lst [.str "number"]) d0 = some (.lst [.str "number"]) := upd_same
  have yy := y
  generalize upd H d0 (.lst [.str "number"]) = J0 at yy md0 ⊢
  have ppd0 := g.hp
  clear y
  refine ⟨Nat.le_of_ble_eq_true rfl, fun t0 nt0 => ?_⟩
  have y := Ex.put (o := .tup [.str "drop", bad, .int 0, .ref d0]) nt0
  have md0 := y _ _ md0
  have mt0 : upd J0 t0 (.tup [.str "drop", bad, .int 0, .ref d0]) t0 = some (.tup [.str "drop", bad, .int 0, .ref d0]) := upd_same
  have ppt0 := yy _ _ g.hp
  have yy := yy.trans y
  generalize upd J0 t0 (.tup [.str "drop", bad, .int 0, .ref d0]) = J1 at yy md0 mt0 ⊢
  clear y
  refine ⟨Nat.le_of_ble_eq_true rfl, fun d1 nd1 => ?_⟩
  have y := Ex.put (o := .lst [.str "size"]) nd1
  have md0 := y _ _ md0
  have mt0 := y _ _ mt0
  have md1 : upd J1 d1 (.lst [.str "size"]) d1 = some (.lst [.str "size"]) := upd_same
  have ppd1 := yy _ _ g.hp
  have yy := yy.trans y
  generalize upd J1 d1 (.lst [.str "size"]) = J2 at yy md0 mt0 md1 ⊢
  clear y
  refine ⟨Nat.le_of_ble_eq_true rfl, fun t1 nt1 => ?_⟩
  have y := Ex.put (o := .tup [.str "new", bad, .int 0, .ref d1]) nt1
  have md0 := y _ _ md0
  have mt0 := y _ _ mt0
  have md1 := y _ _ md1
  have mt1 : upd J2 t1 (.tup [.str "new", bad, .int 0, .ref d1]) t1 = some (.tup [.str "new", bad, .int 0, .ref d1]) := upd_same
  have ppt1 := yy _ _ g.hp
  have yy := yy.trans y
  generalize upd J2 t1 (.tup [.str "new", bad, .int 0, .ref d1]) = J3 at yy md0 mt0 md1 mt1 ⊢
  clear y
  refine ⟨Nat.le_of_ble_eq_true rfl, fun d2 nd2 => ?_⟩
  have y := Ex.put (o := .lst [.str "size"]) nd2
  have md0 := y _ _ md0
  have mt0 := y _ _ mt0
  have md1 := y _ _ md1
  have mt1 := y _ _ mt1
  have md2 : upd J3 d2 (.lst [.str "size"]) d2 = some (.lst [.str "size"]) := upd_same
  have ppd2 := yy _ _ g.hp
  have yy := yy.trans y
  generalize upd J3 d2 (.lst [.str "size"]) = J4 at yy md0 mt0 md1 mt1 md2 ⊢
  clear y
  refine ⟨Nat.le_of_ble_eq_true rfl, fun t2 nt2 => ?_⟩
  have y := Ex.put (o := .tup [.str "new", bad, bad, .ref d2]) nt2
  have md0 := y _ _ md0
  have mt0 := y _ _ mt0
  have md1 := y _ _ md1
  have mt1 := y _ _ mt1
  have md2 := y _ _ md2
  have mt2 : upd J4 t2 (.tup [.str "new", bad, bad, .ref d2]) t2 = some (.tup [.str "new", bad, bad, .ref d2]) := upd_same
  have ppt2 := yy _ _ g.hp
  have yy := yy.trans y
  generalize upd J4 t2 (.tup [.str "new", bad, bad, .ref d2]) = J5 at yy md0 mt0 md1 mt1 md2 mt2 ⊢
  clear y
  have lay1 : ∀ {z : String}, ∀ d ∈ [PyData.str z], Lay 0 d := fun {z} d hd => by
    rw [List.mem_singleton.mp hd]
    exact .str (ok_str _)
  refine ⟨Nat.le_of_ble_eq_true rfl, fun w nw => ?_⟩
  have y := Ex.put (o := .lst [.ref t0, .ref t1, .ref t2]) nw
  have md0 := y _ _ md0
  have mt0 := y _ _ mt0
  have md1 := y _ _ md1
  have mt1 := y _ _ mt1
  have md2 := y _ _ md2
  have mt2 := y _ _ mt2
  have mw : upd J5 w (.lst [.ref t0, .ref t1, .ref t2]) w = some (.lst [.ref t0, .ref t1, .ref t2]) := upd_same
  have ppw := yy _ _ g.hp
  have yy := yy.trans y
  generalize upd J5 w (.lst [.ref t0, .ref t1, .ref t2]) = J6 at yy md0 mt0 md1 mt1 md2 mt2 mw ⊢
  clear y
  have g5 := g.grow yy
  refine ⟨rp, w, _, _, rfl, rfl, g5.gl, mw, by have := g.len; rw [List.length_map]; simp; omega, fun q1 nq => ?_⟩
  have g6 := g.cat (rs2 := [⟨t0, d0, "drop", bad, .int 0, [.str "number"], [.str "number"]⟩, ⟨t1, d1, "new", bad, .int 0, [.str "size"], [.str "size"]⟩, ⟨t2, d2, "new", bad, bad, [.str "size"], [.str "size"]⟩]) yy (fun G2 xb bb f r hr => by
    simp only [List.mem_cons, List.not_mem_nil, or_false] at hr
    rcases hr with rfl | rfl | rfl
    · exact ⟨f _ _ (ne_kind mt0 (yy _ _ g.hp) (fun e => by cases e)) mt0, f _ _ (ne_of_none ppd0 nd0).symm md0, fun H => .cons (.str _) .nil, tells_drop T (A.ex xb) bb, lay1⟩
    · exact ⟨f _ _ (ne_kind mt1 (yy _ _ g.hp) (fun e => by cases e)) mt1, f _ _ (ne_of_none ppd1 nd1).symm md1, fun H => .cons (.str _) .nil, tells_new1 T bb.ty fun h => (bb.nc h).imp fun _ h => ⟨h.1, .inl h.2⟩, lay1⟩
    · exact ⟨f _ _ (ne_kind mt2 (yy _ _ g.hp) (fun e => by cases e)) mt2, f _ _ (ne_of_none ppd2 nd2).symm md2, fun H => .cons (.str _) .nil, tells_new1 T bb.ty fun h => (bb.nc h).imp fun _ h => ⟨h.1, .inl h.2⟩, lay1⟩
  ) nq
  exact k7_ok g6 A l0 l1 kq

theorem k9_ok (g : RG28 T Hb H p s x bad rp rs 5) (A : QAt T.Queue Hb x kl cl q) (b0 : -1 ≤ q.bound) {lo : Int} (l0 : 0 ≤ lo) (l1 : 0 ≤ q.bound → lo ≤ q.bound) (kq : ∀ H', Ex Hb H' → D.rt (.bl true) H') : k9__law_refused_right T D W [some (.ref p), some (.ref x), z2, some (.int q.bound), some bad, some (.int (q.bound + 1)), some (.int lo), some (.ref rp), z8, z9, z10, z11, z12, z13] H := by
  unfold k9__law_refused_right
  walk_at "vc"
  refine ⟨Nat.le_of_ble_eq_true rfl, fun d0 nd0 => ?_⟩
  have y := Ex.put (o := .lst [.str "number"]) nd0
  have md0 : upd H d0 (.lst [.str "number"]) d0 = some (.lst [.str "number"]) := upd_same
  have yy := y
  generalize upd H d0 (.lst [.str "number"]) = J0 at yy md0 ⊢
  have ppd0 := g.hp
  clear y
  refine ⟨Nat.le_of_ble_eq_true rfl, fun t0 nt0 => ?_⟩
  have y := Ex.put (o := .tup [.str "advance", bad, .int 0, .ref d0]) nt0
  have md0 := y _ _ md0
  have mt0 : upd J0 t0 (.tup [.str "advance", bad, .int 0, .ref d0]) t0 = some (.tup [.str "advance", bad, .int 0, .ref d0]) := upd_same
  have ppt0 := yy _ _ g.hp
  have yy := yy.trans y
  generalize upd J0 t0 (.tup [.str "advance", bad, .int 0, .ref d0]) = J1 at yy md0 mt0 ⊢
  clear y
  refine ⟨Nat.le_of_ble_eq_true rfl, fun d1 nd1 => ?_⟩
  have y := Ex.put (o := .lst [.str "amount"]) nd1
  have md0 := y _ _ md0
  have mt0 := y _ _ mt0
  have md1 : upd J1 d1 (.lst [.str "amount"]) d1 = some (.lst [.str "amount"]) := upd_same
  have ppd1 := yy _ _ g.hp
  have yy := yy.trans y
  generalize upd J1 d1 (.lst [.str "amount"]) = J2 at yy md0 mt0 md1 ⊢
  clear y
  refine ⟨Nat.le_of_ble_eq_true rfl, fun t1 nt1 => ?_⟩
  have y := Ex.put (o := .tup [.str "forecast", bad, .int 0, .ref d1]) nt1
  have md0 := y _ _ md0
  have mt0 := y _ _ mt0
  have md1 := y _ _ md1
  have mt1 : upd J2 t1 (.tup [.str "forecast", bad, .int 0, .ref d1]) t1 = some (.tup [.str "forecast", bad, .int 0, .ref d1]) := upd_same
  have ppt1 := yy _ _ g.hp
  have yy := yy.trans y
  generalize upd J2 t1 (.tup [.str "forecast", bad, .int 0, .ref d1]) = J3 at yy md0 mt0 md1 mt1 ⊢
  clear y
  refine ⟨Nat.le_of_ble_eq_true rfl, fun d2 nd2 => ?_⟩
  have y := Ex.put (o := .lst [.str "number"]) nd2
  have md0 := y _ _ md0
  have mt0 := y _ _ mt0
  have md1 := y _ _ md1
  have mt1 := y _ _ mt1
  have md2 : upd J3 d2 (.lst [.str "number"]) d2 = some (.lst [.str "number"]) := upd_same
  have ppd2 := yy _ _ g.hp
  have yy := yy.trans y
  generalize upd J3 d2 (.lst [.str "number"]) = J4 at yy md0 mt0 md1 mt1 md2 ⊢
  clear y
  refine ⟨Nat.le_of_ble_eq_true rfl, fun t2 nt2 => ?_⟩
  have y := Ex.put (o := .tup [.str "arrived", bad, .int 0, .ref d2]) nt2
  have md0 := y _ _ md0
  have mt0 := y _ _ mt0
  have md1 := y _ _ md1
  have mt1 := y _ _ mt1
  have md2 := y _ _ md2
  have mt2 : upd J4 t2 (.tup [.str "arrived", bad, .int 0, .ref d2]) t2 = some (.tup [.str "arrived", bad, .int 0, .ref d2]) := upd_same
  have ppt2 := yy _ _ g.hp
  have yy := yy.trans y
  generalize upd J4 t2 (.tup [.str "arrived", bad, .int 0, .ref d2]) = J5 at yy md0 mt0 md1 mt1 md2 mt2 ⊢
  clear y
  have lay1 : ∀ {z : String}, ∀ d ∈ [PyData.str z], Lay 0 d := fun {z} d hd => by
    rw [List.mem_singleton.mp hd]
    exact .str (ok_str _)
  refine ⟨Nat.le_of_ble_eq_true rfl, fun w nw => ?_⟩
  have y := Ex.put (o := .lst [.ref t0, .ref t1, .ref t2]) nw
  have md0 := y _ _ md0
  have mt0 := y _ _ mt0
  have md1 := y _ _ md1
  have mt1 := y _ _ mt1
  have md2 := y _ _ md2
  have mt2 := y _ _ mt2
  have mw : upd J5 w (.lst [.ref t0, .ref t1, .ref t2]) w = some (.lst [.ref t0, .ref t1, .ref t2]) := upd_same
  have ppw := yy _ _ g.hp
  have yy := yy.trans y
  generalize upd J5 w (.lst [.ref t0, .ref t1, .ref t2]) = J6 at yy md0 mt0 md1 mt1 md2 mt2 mw ⊢
  clear y
  have g5 := g.grow yy
  refine ⟨rp, w, _, _, rfl, rfl, g5.gl, mw, by have := g.len; rw [List.length_map]; simp; omega, fun q1 nq => ?_⟩
  have g6 := g.cat (rs2 := [⟨t0, d0, "advance", bad, .int 0, [.str "number"], [.str "number"]⟩, ⟨t1, d1, "forecast", bad, .int 0, [.str "amount"], [.str "amount"]⟩, ⟨t2, d2, "arrived", bad, .int 0, [.str "number"], [.str "number"]⟩]) yy (fun G2 xb bb f r hr => by
    simp only [List.mem_cons, List.not_mem_nil, or_false] at hr
    rcases hr with rfl | rfl | rfl
    · exact ⟨f _ _ (ne_kind mt0 (yy _ _ g.hp) (fun e => by cases e)) mt0, f _ _ (ne_of_none ppd0 nd0).symm md0, fun H => .cons (.str _) .nil, tells_advance T (A.ex xb) bb, lay1⟩
    · exact ⟨f _ _ (ne_kind mt1 (yy _ _ g.hp) (fun e => by cases e)) mt1, f _ _ (ne_of_none ppd1 nd1).symm md1, fun H => .cons (.str _) .nil, tells_forecast T (A.ex xb) bb, lay1⟩
    · exact ⟨f _ _ (ne_kind mt2 (yy _ _ g.hp) (fun e => by cases e)) mt2, f _ _ (ne_of_none ppd2 nd2).symm md2, fun H => .cons (.str _) .nil, tells_arrived T (A.ex xb) bb, lay1⟩
  ) nq
  exact k8_ok g6 A b0 l0 l1 kq

theorem k10_ok (g : RG28 T Hb H p s x bad rp rs 3) (A : QAt T.Queue Hb x kl cl q) (b0 : -1 ≤ q.bound) {lo : Int} (l0 : 0 ≤ lo) (l1 : 0 ≤ q.bound → lo ≤ q.bound) (kq : ∀ H', Ex Hb H' → D.rt (.bl true) H') : k10__law_refused_right T D W [some (.ref p), some (.ref x), z2, some (.int q.bound), some bad, some (.int (q.bound + 1)), some (.int lo), some (.ref rp), z8, z9, z10, z11, z12, z13] H := by
  unfold k10__law_refused_right
  walk_at "vc"
  refine ⟨Nat.le_of_ble_eq_true rfl, fun d0 nd0 => ?_⟩
  have y := Ex.put (o := .lst [.str "number"]) nd0
  have md0 : upd H d0 (.lst [.str "number"]) d0 = some (.lst [.str "number"]) := upd_same
  have yy := y
  generalize upd H d0 (.lst [.str "number"]) = J0 at yy md0 ⊢
  have ppd0 := g.hp
  clear y
  refine ⟨Nat.le_of_ble_eq_true rfl, fun t0 nt0 => ?_⟩
  have y := Ex.put (o := .tup [.str "range", bad, bad, .ref d0]) nt0
  have md0 := y _ _ md0
  have mt0 : upd J0 t0 (.tup [.str "range", bad, bad, .ref d0]) t0 = some (.tup [.str "range", bad, bad, .ref d0]) := upd_same
  have ppt0 := yy _ _ g.hp
  have yy := yy.trans y
  generalize upd J0 t0 (.tup [.str "range", bad, bad, .ref d0]) = J1 at yy md0 mt0 ⊢
  clear y
  refine ⟨Nat.le_of_ble_eq_true rfl, fun d1 nd1 => ?_⟩
  have y := Ex.put (o := .lst [.str "number"]) nd1
  have md0 := y _ _ md0
  have mt0 := y _ _ mt0
  have md1 : upd J1 d1 (.lst [.str "number"]) d1 = some (.lst [.str "number"]) := upd_same
  have ppd1 := yy _ _ g.hp
  have yy := yy.trans y
  generalize upd J1 d1 (.lst [.str "number"]) = J2 at yy md0 mt0 md1 ⊢
  clear y
  refine ⟨Nat.le_of_ble_eq_true rfl, fun t1 nt1 => ?_⟩
  have y := Ex.put (o := .tup [.str "range", .int (q.bound + 1 + 1), .int (q.bound + 1), .ref d1]) nt1
  have md0 := y _ _ md0
  have mt0 := y _ _ mt0
  have md1 := y _ _ md1
  have mt1 : upd J2 t1 (.tup [.str "range", .int (q.bound + 1 + 1), .int (q.bound + 1), .ref d1]) t1 = some (.tup [.str "range", .int (q.bound + 1 + 1), .int (q.bound + 1), .ref d1]) := upd_same
  have ppt1 := yy _ _ g.hp
  have yy := yy.trans y
  generalize upd J2 t1 (.tup [.str "range", .int (q.bound + 1 + 1), .int (q.bound + 1), .ref d1]) = J3 at yy md0 mt0 md1 mt1 ⊢
  clear y
  have lay1 : ∀ {z : String}, ∀ d ∈ [PyData.str z], Lay 0 d := fun {z} d hd => by
    rw [List.mem_singleton.mp hd]
    exact .str (ok_str _)
  refine ⟨Nat.le_of_ble_eq_true rfl, fun w nw => ?_⟩
  have y := Ex.put (o := .lst [.ref t0, .ref t1]) nw
  have md0 := y _ _ md0
  have mt0 := y _ _ mt0
  have md1 := y _ _ md1
  have mt1 := y _ _ mt1
  have mw : upd J3 w (.lst [.ref t0, .ref t1]) w = some (.lst [.ref t0, .ref t1]) := upd_same
  have ppw := yy _ _ g.hp
  have yy := yy.trans y
  generalize upd J3 w (.lst [.ref t0, .ref t1]) = J4 at yy md0 mt0 md1 mt1 mw ⊢
  clear y
  have g5 := g.grow yy
  refine ⟨rp, w, _, _, rfl, rfl, g5.gl, mw, by have := g.len; rw [List.length_map]; simp; omega, fun q1 nq => ?_⟩
  have g6 := g.cat (rs2 := [⟨t0, d0, "range", bad, bad, [.str "number"], [.str "number"]⟩, ⟨t1, d1, "range", .int (q.bound + 1 + 1), .int (q.bound + 1), [.str "number"], [.str "number"]⟩]) yy (fun G2 xb bb f r hr => by
    simp only [List.mem_cons, List.not_mem_nil, or_false] at hr
    rcases hr with rfl | rfl
    · exact ⟨f _ _ (ne_kind mt0 (yy _ _ g.hp) (fun e => by cases e)) mt0, f _ _ (ne_of_none ppd0 nd0).symm md0, fun H => .cons (.str _) .nil, tells_range1 T (A.ex xb) bb, lay1⟩
    · exact ⟨f _ _ (ne_kind mt1 (yy _ _ g.hp) (fun e => by cases e)) mt1, f _ _ (ne_of_none ppd1 nd1).symm md1, fun H => .cons (.str _) .nil, tells_range3 T (A.ex xb) (by omega) (by omega), lay1⟩
  ) nq
  exact k9_ok g6 A b0 l0 l1 kq

structure PX28 (Hb H : Hp) (p : Addr) (s : PS) (bad : V) : Prop where
  b : Bad Hb bad
  gp : Hb p = none
  xg : Ex Hb H
  hp : H p = some (potL s)
  ps : PotX s
theorem start28 {H1 : Hp} {q1 : Addr} {rs2 : List RD} (g : PX28 Hb H p s bad) (y : Ex H H1) (h2 : ∀ G2, Ex Hb G2 → Bad G2 bad → (∀ b o, b ≠ p → H1 b = some o → G2 b = some o) → ∀ r ∈ rs2, Row28 T G2 x r) (nq : H1 q1 = none) : RG28 T Hb (upd H1 q1 (.lst (rs2.map rowT))) p s x bad q1 rs2 rs2.length := by
  have npq : p ≠ q1 := ne_of_none (y _ _ g.hp) nq
  have z : Ex Hb (del H1 p) := fun b o e => by
    rw [del_ne (ne_of_none e g.gp)]
    exact y _ _ (g.xg _ _ e)
  refine ⟨⟨del H1 p, z, del_same, by rw [del_ne npq.symm]; exact nq, fun b o e => ?_, g.b.ex z, h2 _ z (g.b.ex z) fun b o nb e => by rw [del_ne nb]; exact e⟩, by rw [upd_ne npq]; exact y _ _ g.hp, g.ps, upd_same, npq, Nat.le_refl _⟩
  have nb : b ≠ p := fun z => by
    rw [z, del_same] at e
    cases e
  rw [del_ne nb] at e
  rw [upd_ne (ne_of_none e nq)]
  exact e
theorem k11_ok (g : PX28 Hb H p s bad) (A : QAt T.Queue Hb x kl cl q) (b0 : -1 ≤ q.bound) {lo : Int} (l0 : 0 ≤ lo) (l1 : 0 ≤ q.bound → lo ≤ q.bound) (kq : ∀ H', Ex Hb H' → D.rt (.bl true) H') : k11__law_refused_right T D W [some (.ref p), some (.ref x), z2, some (.int q.bound), some bad, some (.int (q.bound + 1)), some (.int lo), z7, z8, z9, z10, z11, z12, z13] H := by
  unfold k11__law_refused_right
  walk_at "vc"
  refine ⟨Nat.le_of_ble_eq_true rfl, fun d0 nd0 => ?_⟩
  have y := Ex.put (o := .lst [.str "number"]) nd0
  have md0 : upd H d0 (.lst [.str "number"]) d0 = some (.lst [.str "number"]) := upd_same
  have yy := y
  generalize upd H d0 (.lst [.str "number"]) = J0 at yy md0 ⊢
  have ppd0 := g.hp
  clear y
  refine ⟨Nat.le_of_ble_eq_true rfl, fun t0 nt0 => ?_⟩
  have y := Ex.put (o := .tup [.str "push", bad, .int 0, .ref d0]) nt0
  have md0 := y _ _ md0
  have mt0 : upd J0 t0 (.tup [.str "push", bad, .int 0, .ref d0]) t0 = some (.tup [.str "push", bad, .int 0, .ref d0]) := upd_same
  have ppt0 := yy _ _ g.hp
  have yy := yy.trans y
  generalize upd J0 t0 (.tup [.str "push", bad, .int 0, .ref d0]) = J1 at yy md0 mt0 ⊢
  clear y
  refine ⟨Nat.le_of_ble_eq_true rfl, fun d1 nd1 => ?_⟩
  have y := Ex.put (o := .lst [.str "number"]) nd1
  have md0 := y _ _ md0
  have mt0 := y _ _ mt0
  have md1 : upd J1 d1 (.lst [.str "number"]) d1 = some (.lst [.str "number"]) := upd_same
  have ppd1 := yy _ _ g.hp
  have yy := yy.trans y
  generalize upd J1 d1 (.lst [.str "number"]) = J2 at yy md0 mt0 md1 ⊢
  clear y
  refine ⟨Nat.le_of_ble_eq_true rfl, fun t1 nt1 => ?_⟩
  have y := Ex.put (o := .tup [.str "range", bad, .int (q.bound + 1), .ref d1]) nt1
  have md0 := y _ _ md0
  have mt0 := y _ _ mt0
  have md1 := y _ _ md1
  have mt1 : upd J2 t1 (.tup [.str "range", bad, .int (q.bound + 1), .ref d1]) t1 = some (.tup [.str "range", bad, .int (q.bound + 1), .ref d1]) := upd_same
  have ppt1 := yy _ _ g.hp
  have yy := yy.trans y
  generalize upd J2 t1 (.tup [.str "range", bad, .int (q.bound + 1), .ref d1]) = J3 at yy md0 mt0 md1 mt1 ⊢
  clear y
  refine ⟨Nat.le_of_ble_eq_true rfl, fun d2 nd2 => ?_⟩
  have y := Ex.put (o := .lst [.str "number"]) nd2
  have md0 := y _ _ md0
  have mt0 := y _ _ mt0
  have md1 := y _ _ md1
  have mt1 := y _ _ mt1
  have md2 : upd J3 d2 (.lst [.str "number"]) d2 = some (.lst [.str "number"]) := upd_same
  have ppd2 := yy _ _ g.hp
  have yy := yy.trans y
  generalize upd J3 d2 (.lst [.str "number"]) = J4 at yy md0 mt0 md1 mt1 md2 ⊢
  clear y
  refine ⟨Nat.le_of_ble_eq_true rfl, fun t2 nt2 => ?_⟩
  have y := Ex.put (o := .tup [.str "range", .int (q.bound + 1), bad, .ref d2]) nt2
  have md0 := y _ _ md0
  have mt0 := y _ _ mt0
  have md1 := y _ _ md1
  have mt1 := y _ _ mt1
  have md2 := y _ _ md2
  have mt2 : upd J4 t2 (.tup [.str "range", .int (q.bound + 1), bad, .ref d2]) t2 = some (.tup [.str "range", .int (q.bound + 1), bad, .ref d2]) := upd_same
  have ppt2 := yy _ _ g.hp
  have yy := yy.trans y
  generalize upd J4 t2 (.tup [.str "range", .int (q.bound + 1), bad, .ref d2]) = J5 at yy md0 mt0 md1 mt1 md2 mt2 ⊢
  clear y
  have lay1 : ∀ {z : String}, ∀ d ∈ [PyData.str z], Lay 0 d := fun {z} d hd => by
    rw [List.mem_singleton.mp hd]
    exact .str (ok_str _)
  refine ⟨Nat.le_of_ble_eq_true rfl, fun q1 nq => ?_⟩
  have g6 := start28 g (rs2 := [⟨t0, d0, "push", bad, .int 0, [.str "number"], [.str "number"]⟩, ⟨t1, d1, "range", bad, .int (q.bound + 1), [.str "number"], [.str "number"]⟩, ⟨t2, d2, "range", .int (q.bound + 1), bad, [.str "number"], [.str "number"]⟩]) yy (fun G2 xb bb f r hr => by
    simp only [List.mem_cons, List.not_mem_nil, or_false] at hr
    rcases hr with rfl | rfl | rfl
    · exact ⟨f _ _ (ne_kind mt0 (yy _ _ g.hp) (fun e => by cases e)) mt0, f _ _ (ne_of_none ppd0 nd0).symm md0, fun H => .cons (.str _) .nil, tells_push T (A.ex xb) bb, lay1⟩
    · exact ⟨f _ _ (ne_kind mt1 (yy _ _ g.hp) (fun e => by cases e)) mt1, f _ _ (ne_of_none ppd1 nd1).symm md1, fun H => .cons (.str _) .nil, tells_range1 T (A.ex xb) bb, lay1⟩
    · exact ⟨f _ _ (ne_kind mt2 (yy _ _ g.hp) (fun e => by cases e)) mt2, f _ _ (ne_of_none ppd2 nd2).symm md2, fun H => .cons (.str _) .nil, tells_range2 T (A.ex xb) (by omega) bb, lay1⟩
  ) nq
  exact k10_ok g6 A b0 l0 l1 kq

end
section
variable {T : All K mg} {Hb H : Hp} {p x kl cl : Addr} {q : Qst} {s : PS} {Q : VK} {E : XK}
theorem bad_ok (T : All K mg) (hp : H p = some (potL s)) (ps : PotX s) (k : ∀ v H1 s1, (∀ b o, b ≠ p → H b = some o → H1 b = some o) → H1 p = some (potL s1) → PotX s1 → Bad (del H1 p) v → Q v H1) : sp__law_bad T [.ref p] H Q E := by
  unfold sp__law_bad
  refine ⟨rfl, ?_⟩
  walk_at "vc"
  have hp0 := hp
  refine ⟨Nat.le_of_ble_eq_true rfl, fun t1 n1 => ?_⟩
  have y := Ex.put (o := .tup []) n1
  have p1 : p ≠ t1 := ne_of_none hp n1
  have m1 : upd H t1 (.tup []) t1 = some (.tup []) := upd_same
  generalize upd H t1 (.tup []) = H1 at y m1 ⊢
  refine ⟨Nat.le_of_ble_eq_true rfl, fun t2 n2 => ?_⟩
  have y2 := Ex.put (o := .lst []) n2
  have p2 : p ≠ t2 := ne_of_none (y _ _ hp) n2
  have y := y.trans y2
  have m1 := y2 _ _ m1
  have m2 : upd H1 t2 (.lst []) t2 = some (.lst []) := upd_same
  generalize upd H1 t2 (.lst []) = H2 at y m1 m2 ⊢
  walk_at "vc"
  intro t3 n3
  have y3 := Ex.put (o := .dK []) n3
  have p3 : p ≠ t3 := ne_of_none (y _ _ hp) n3
  have y := y.trans y3
  have m1 := y3 _ _ m1
  have m2 := y3 _ _ m2
  have m3 : upd H2 t3 (.dK []) t3 = some (.dK []) := upd_same
  generalize upd H2 t3 (.dK []) = H3 at y m1 m2 m3 ⊢
  refine ⟨Nat.le_of_ble_eq_true rfl, fun t4 n4 => ?_⟩
  have y4 := Ex.put (o := .tup [.int 1]) n4
  have p4 : p ≠ t4 := ne_of_none (y _ _ hp) n4
  have y := y.trans y4
  have m1 := y4 _ _ m1
  have m2 := y4 _ _ m2
  have m3 := y4 _ _ m3
  have m4 : upd H3 t4 (.tup [.int 1]) t4 = some (.tup [.int 1]) := upd_same
  generalize upd H3 t4 (.tup [.int 1]) = H4 at y m1 m2 m3 m4 ⊢
  refine ⟨Nat.le_of_ble_eq_true rfl, fun t5 n5 => ?_⟩
  have y5 := Ex.put (o := .lst [.int 1]) n5
  have p5 : p ≠ t5 := ne_of_none (y _ _ hp) n5
  have y := y.trans y5
  have m1 := y5 _ _ m1
  have m2 := y5 _ _ m2
  have m3 := y5 _ _ m3
  have m4 := y5 _ _ m4
  have m5 : upd H4 t5 (.lst [.int 1]) t5 = some (.lst [.int 1]) := upd_same
  generalize upd H4 t5 (.lst [.int 1]) = H5 at y m1 m2 m3 m4 m5 ⊢
  walk_at "vc"
  refine ⟨by walk_at "G:pow", ?_⟩
  have e30 : (10 : Int) ^ (30 : Int).toNat = 1000000000000000000000000000000 := by decide +kernel
  rw [e30]
  refine ⟨Nat.le_of_ble_eq_true rfl, fun t6 n6 => ?_⟩
  have hp5 := y _ _ hp
  have p6 : p ≠ t6 := ne_of_none hp5 n6
  have y6 := Ex.put (o := .lst [.non, .int (-1), .bl true, .bl false, .str "1", .str "", .ref t1, .ref t2, .ref t3, .ref t4, .ref t5, .int (-1000000000000000000000000000000)]) n6
  have hp6 := y6 _ _ hp5
  have m6 : upd H5 t6 (.lst [.non, .int (-1), .bl true, .bl false, .str "1", .str "", .ref t1, .ref t2, .ref t3, .ref t4, .ref t5, .int (-1000000000000000000000000000000)]) t6 = some (.lst [.non, .int (-1), .bl true, .bl false, .str "1", .str "", .ref t1, .ref t2, .ref t3, .ref t4, .ref t5, .int (-1000000000000000000000000000000)]) := upd_same
  have m1 := y6 _ _ m1
  have m2 := y6 _ _ m2
  have m3 := y6 _ _ m3
  have m4 := y6 _ _ m4
  have m5 := y6 _ _ m5
  have y := y.trans y6
  show sp__law_pick T [.ref p, .ref t6] (upd H5 t6 (.lst [.non, .int (-1), .bl true, .bl false, .str "1", .str "", .ref t1, .ref t2, .ref t3, .ref t4, .ref t5, .int (-1000000000000000000000000000000)])) _ _
  generalize upd H5 t6 (.lst [.non, .int (-1), .bl true, .bl false, .str "1", .str "", .ref t1, .ref t2, .ref t3, .ref t4, .ref t5, .int (-1000000000000000000000000000000)]) = H6 at y hp6 m1 m2 m3 m4 m5 m6 ⊢
  refine pick_x T hp6 ps m6 (by simp) (by simp) (fun v hv mv => ?_) p6
  have dl : ∀ {b : Addr} {o : HO} {o' : HO}, p ≠ b → H6 b = some o → del (upd H6 p o') p b = some o := fun {b o o'} n e => by
    rw [del_ne n.symm, upd_ne n.symm]
    exact e
  refine fg.i (k v _ _ (fun b o nb e => by rw [upd_ne nb]; exact y _ _ e) upd_same (ps.dig (by simp)) ?_)
  simp only [List.mem_cons, List.not_mem_nil, or_false] at mv
  rcases mv with rfl | rfl | rfl | rfl | rfl | rfl | rfl | rfl | rfl | rfl | rfl | rfl
  · exact ⟨⟨_, .non⟩, rfl, fun z => nomatch z⟩
  · exact ⟨⟨_, .int _⟩, rfl, fun _ => ⟨_, rfl, by decide⟩⟩
  · exact ⟨⟨_, .bl _⟩, rfl, fun z => nomatch z⟩
  · exact ⟨⟨_, .bl _⟩, rfl, fun z => nomatch z⟩
  · exact ⟨⟨_, .str _⟩, rfl, fun z => nomatch z⟩
  · exact ⟨⟨_, .str _⟩, rfl, fun z => nomatch z⟩
  · exact ⟨⟨_, .tup (dl p1 m1)⟩, rfl, fun z => nomatch z⟩
  · exact ⟨⟨_, .lst (dl p2 m2)⟩, rfl, fun z => nomatch z⟩
  · exact ⟨⟨_, .dct (dl p3 m3)⟩, rfl, fun z => nomatch z⟩
  · exact ⟨⟨_, .tup (dl p4 m4)⟩, rfl, fun z => nomatch z⟩
  · exact ⟨⟨_, .lst (dl p5 m5)⟩, rfl, fun z => nomatch z⟩
  · exact ⟨⟨_, .int _⟩, rfl, fun _ => ⟨_, rfl, by decide⟩⟩
theorem refused_ok (T : All K mg) (hp : H p = some (potL s)) (ps : PotX s) (gp : Hb p = none) (xg : Ex Hb H) (A : QAt T.Queue Hb x kl cl q) (b0 : -1 ≤ q.bound) (kq : ∀ H', Ex Hb H' → Q (.bl true) H') : sp__law_refused_right T [.ref p, .ref x] H Q E := by
  have A0 := A.ex xg
  obtain ⟨dx, i⟩ := A0.ins
  unfold sp__law_refused_right
  refine ⟨rfl, ?_⟩
  walk_at "vc"
  refine ⟨x, dx, _, rfl, i, rfl, Queue_newest_ok T A0 ?_⟩
  have first : ∀ (D : Ends) (W : WX) (z3 z4 z5 z6 z7 z8 z9 z10 z11 z12 z13 : Option V), k13__law_refused_right T D W [some (.ref p), some (.ref x), some (optV q.latest), some (.int q.bound), z4, z5, z6, z7, z8, z9, z10, z11, z12, z13] H → k14__law_refused_right T D W [some (.ref p), some (.ref x), some (optV q.latest), z3, z4, z5, z6, z7, z8, z9, z10, z11, z12, z13] H := fun D W z3 z4 z5 z6 z7 z8 z9 z10 z11 z12 z13 h => by
    have eb : q.bound = match q.latest with
      | none => q.first - 1
      | some l => l := rfl
    unfold k14__law_refused_right
    cases hl : q.latest with
    | none =>
      rw [hl] at eb h
      have eb : q.bound = q.first - 1 := eb
      rw [eb] at h
      walk_at "vc"
      refine ⟨rfl, fun _ => ?_, fun z => nomatch z⟩
      walk_at "vc"
      refine ⟨x, dx, _, rfl, i, rfl, Queue_start_ok T A0 ?_⟩
      exact h
    | some l =>
      rw [hl] at eb h
      have eb : q.bound = l := eb
      rw [eb] at h
      walk_at "vc"
      exact ⟨rfl, (fun z => nomatch z), fun _ => h⟩
  refine first _ _ _ _ _ _ _ _ _ _ _ _ _ ?_
  clear first
  unfold k13__law_refused_right
  walk_at "vc"
  refine bad_ok T hp ps fun bad H1 s1 f1 hp1 ps1 bb => ?_
  have z : Ex Hb (del H1 p) := fun b o e => by
    have nb : b ≠ p := ne_of_none e gp
    rw [del_ne nb]
    exact f1 b o nb (xg _ _ e)
  have g1 : PX28 (del H1 p) H1 p s1 bad := ⟨bb, del_same, fun b o e => by
    have nb : b ≠ p := fun z => by
      rw [z, del_same] at e
      cases e
    rw [del_ne nb] at e
    exact e, hp1, ps1⟩
  have A1 := A.ex z
  walk_at "vc"
  refine digit_x T hp1 ps1 (by walk_at "G:dig") ?_
  have hd := dgV_b (s := s1) (m := 3) (by decide)
  have g2 : PX28 (del H1 p) (upd H1 p (potL (dgS s1 3))) p (dgS s1 3) bad := ⟨bb, del_same, fun b o e => by
    have nb : b ≠ p := fun z => by
      rw [z, del_same] at e
      cases e
    rw [upd_ne nb]
    exact g1.xg _ _ e, upd_same, ps1.dig (by decide)⟩
  generalize upd H1 p (potL (dgS s1 3)) = H2 at g2 ⊢
  walk_at "vc"
  obtain ⟨lo, el, l0, l1⟩ : ∃ lo : Int, (if q.bound - dgV s1 3 > 0 then q.bound - dgV s1 3 else 0) = lo ∧ 0 ≤ lo ∧ (0 ≤ q.bound → lo ≤ q.bound) := ⟨_, rfl, by split <;> omega, fun _ => by split <;> omega⟩
  rw [el]
  exact k11_ok g2 A1 b0 l0 l1 fun H' x' => fg.i (kq H' (z.trans x'))
end
section
variable {H : Hp} {Q : VK} {E : XK} {x kl cl : Addr} {q : Qst}
theorem eqv_no {a b : Qst} (h : ¬ (a.size = b.size ∧ a.first = b.first ∧ a.mark = b.mark ∧ a.latest = b.latest)) : a.eqv b = false := by
  unfold Qst.eqv
  exact decide_eq_false fun z => h ⟨z.1, z.2.1, z.2.2.1, z.2.2.2.1⟩
structure Oth (C : Addr) (H : Hp) (q : Qst) (y : Addr) : Prop where
  ex : ∃ kl cl r, QAt C H y kl cl r ∧ q.eqv r = false
theorem Oth.ex' {C : Addr} {H H' : Hp} {y : Addr} (h : Oth C H q y) (e : Ex H H') : Oth C H' q y := by
  obtain ⟨kl, cl, r, A, n⟩ := h.ex
  exact ⟨kl, cl, r, A.ex e, n⟩
theorem others_ok (T : All K mg) (A : QAt T.Queue H x kl cl q) (ok : QOk q) (hb : q.bound < 1000000000000000000000000000000000000000000000000000000000000) (hm : q.mark < 1000000000000000000000000000000000000000000000000000000000000) (hc : q.calls.length < 90000)
    (k : ∀ l (ys : List Addr) H', Ex H H' → H' l = some (.lst (ys.map V.ref)) → ys.length = 4 → (∀ y ∈ ys, Oth T.Queue H' q y) → Q (.ref l) H') : sp__law_others T [.ref x] H Q E := by
  have k2 := ok.c2
  have k9 := ok.c9
  have f0 := ok.f0
  have b0 := ok.b0
  have m0 := ok.m0
  obtain ⟨dx, i⟩ := A.ins
  unfold sp__law_others
  refine ⟨rfl, ?_⟩
  walk_at "vc"
  refine ⟨x, dx, _, rfl, i, rfl, Queue_capacity_ok T A ?_⟩
  walk_at "vc"
  refine ⟨by walk_at "G:mod", ?_⟩
  walk_at "vc"
  refine ⟨x, dx, _, rfl, i, rfl, Queue_start_ok T A ?_⟩
  obtain ⟨cap, hcap⟩ : ∃ c : Nat, 2 + ((q.size : Int) - 1) % 8 = c := ⟨(2 + ((q.size : Int) - 1) % 8).toNat, by omega⟩
  walk_at "vc"
  rw [hcap]
  refine ⟨rfl, rfl, ?_⟩
  intro x0 d0 nx nd ne
  refine Queue_init_ok T (cap := cap) upd_same (by omega) (by omega) f0 fun ka ca H1 f1 nk nc nkc A0 => ⟨rfl, ?_⟩
  obtain ⟨y1, z1⟩ := made_ex nx nd ne f1
  have o0 : Oth T.Queue H1 q x0 := ⟨ka, ca, _, A0, eqv_no fun z => by
    have : q.size = cap := z.1
    omega⟩
  refine ⟨Nat.le_of_ble_eq_true rfl, fun lf nlf => ?_⟩
  have y2 := y1.trans (Ex.put (o := .lst [.ref x0]) nlf)
  have o0 := o0.ex' (Ex.put (o := .lst [.ref x0]) nlf)
  have g2 : upd H1 lf (.lst [.ref x0]) lf = some (.lst [.ref x0]) := upd_same
  have nlf0 : H lf = none := y1.free nlf
  generalize upd H1 lf (.lst [.ref x0]) = H2 at y2 o0 g2 ⊢
  clear y1 z1 f1 nx nd ne nk nc nkc A0
  have A2 := A.ex y2
  obtain ⟨dx2, i2⟩ := A2.ins
  walk_at "vc"
  refine ⟨⟨_, g2⟩, ?_⟩
  refine ⟨x, dx2, _, rfl, i2, rfl, Queue_capacity_ok T A2 ?_⟩
  walk_at "vc"
  refine ⟨x, dx2, _, rfl, i2, rfl, Queue_start_ok T A2 ?_⟩
  walk_at "vc"
  refine ⟨rfl, rfl, ?_⟩
  intro x1 d1 nx nd ne
  refine Queue_init_ok T (cap := q.size) upd_same (by omega) (by omega) (show 0 ≤ q.first + 1 by omega) fun kb cb H3 f3 nk nc nkc A1 => ⟨rfl, ?_⟩
  obtain ⟨y3, z3⟩ := made_ex nx nd ne f3
  have g3 := y3 _ _ g2
  refine ⟨_, g3, Nat.le_of_ble_eq_true rfl, ?_⟩
  have o0 := o0.ex' y3
  have o1 : Oth T.Queue H3 q x1 := ⟨kb, cb, _, A1, eqv_no fun z => by
    have : q.first = q.first + 1 := z.2.1
    omega⟩
  have wr : ∀ {y : Addr}, y = x0 ∨ y = x1 → Oth T.Queue H3 q y → Oth T.Queue (upd H3 lf (.lst ([V.ref x0] ++ [.ref x1]))) q y := fun {y} _ ho => by
    obtain ⟨ka, ca, r, B, n⟩ := ho.ex
    refine ⟨ka, ca, r, ?_, n⟩
    obtain ⟨⟨dy, i1⟩, j2, cs, j3, j4⟩ := id B
    refine B.fr (L := [lf]) (.upd (.of_ex (Ex.refl _)) (.inl (by simp))) ?_ ?_ ?_ fun b hb xs e => ?_
    · simp
      exact ne_kind i1 g3 (fun e => by cases e)
    · simp
      intro e
      rw [e, g3] at j2
      have : ([V.ref x0] : List V) = r.kept.map V.int := by
        injection (Option.some.inj j2)
      cases h : r.kept with
      | nil => rw [h] at this; cases this
      | cons a l => rw [h] at this; injection this with h1 _; cases h1
    · simp
      intro e
      rw [e, g3] at j3
      have : ([V.ref x0] : List V) = cs.map V.ref := by
        injection (Option.some.inj j3)
      cases cs with
      | nil => cases this
      | cons a l =>
        injection this with h1 h2
        have h1 : x0 = a := by injection h1
        cases l with
        | cons b l => cases h2
        | nil =>
          have l1 := j4.1
          cases hr : r.calls with
          | nil => rw [hr] at l1; cases l1
          | cons c0 l0 =>
            have := j4.2 0 a c0 rfl (by rw [hr]; rfl)
            obtain ⟨_, _, _, A9, _⟩ := o0.ex
            obtain ⟨_, i9⟩ := A9.ins
            rw [← h1, i9] at this
            cases this
    · simp at hb
      subst hb
      rw [g3] at e
      cases e
  have o0 := wr (.inl rfl) o0
  have o1 := wr (.inr rfl) o1
  have y4 : Ex H (upd H3 lf (.lst ([V.ref x0] ++ [.ref x1]))) := fun b o e => by
    rw [upd_ne (ne_of_none e nlf0)]
    exact y3 _ _ (y2 _ _ e)
  have g4 : upd H3 lf (.lst ([V.ref x0] ++ [.ref x1])) lf = some (.lst [.ref x0, .ref x1]) := upd_same
  generalize upd H3 lf (.lst ([V.ref x0] ++ [.ref x1])) = H4 at y4 g4 o0 o1 ⊢
  clear wr y3 z3 g3 g2 y2 f3 nx nd ne nk nc nkc A1 A2
  have A4 := A.ex y4
  obtain ⟨dx4, i4⟩ := A4.ins
  walk_at "vc"
  refine ⟨x, dx4, _, rfl, i4, rfl, ?_⟩
  refine Queue_copy_ok T A4 ok fun xp kp cp H5 y5 nxp nkp ncp ncc P5 => ?_
  have A5 := A4.ex y5
  obtain ⟨dx5, i5⟩ := A5.ins
  walk_at "vc"
  refine ⟨x, dx5, _, rfl, i5, rfl, ?_⟩
  refine Queue_copy_ok T A5 ok fun xg kg cg H6 y6 nxg nkg ncg ncc2 G6 => ?_
  have y46 := y5.trans y6
  have P6 : Q1 T.Queue H4 H6 xp kp cp q := ⟨P5.ex y6, y46, nxp, ncp, ncc⟩
  have R6 : Q1 T.Queue H4 H6 xg kg cg q := ⟨G6, y46, y5.free nxg, y5.free ncg, ncc2⟩
  obtain ⟨op, sp_⟩ := P5.cl_some
  obtain ⟨dp, ip⟩ := P5.ins
  have ap : Ap xp kp cp xg kg cg := ⟨ne_of_none ip nxg, ne_of_none P5.kept ncg, (ne_of_none sp_ nkg).symm, ne_of_none sp_ ncg⟩
  have A6 := A5.ex y6
  obtain ⟨dx6, i6⟩ := A6.ins
  walk_at "vc"
  refine ⟨x, dx6, _, rfl, i6, rfl, Queue_newest_ok T A6 ?_⟩
  obtain ⟨dp6, ip6⟩ := P6.at_.ins
  have push : ∀ {R : VK} {W : XK}, (∀ v H', fg (fun H'' => ∃ kp2, Q1 T.Queue H4 H'' xp kp2 cp (q.arrive (q.bound + 1) (q.bound + 1)) ∧ Q1 T.Queue H4 H'' xg kg cg q ∧ Ap xp kp2 cp xg kg cg) H' → R v H') → sp_Queue_push T [.ref xp, .int (q.bound + 1)] H6 R W := fun {R W} h => by
    refine Queue_push_ok T P6.at_ ok (by omega) (by unfold Big; omega) (by omega) P6.e1 fun kp2 H7 f7 n7 P7 => h _ _ ?_
    exact fg.i ⟨kp2, P6.op f7 n7 P7, P6.other R6 ap f7, ap.op R6 n7⟩
  have eb : q.bound = match q.latest with
    | none => q.first - 1
    | some l => l := rfl
  have tail : ∀ {z4 : Option V} {H7 : Hp}, fg (fun H'' => ∃ kp2, Q1 T.Queue H4 H'' xp kp2 cp (q.arrive (q.bound + 1) (q.bound + 1)) ∧ Q1 T.Queue H4 H'' xg kg cg q ∧ Ap xp kp2 cp xg kg cg) H7 → (zCons (zExpr (rMeth T.Queue "advance" (sp_Queue_advance T) [] (rVar 3) (aCons (rBin oAdd (rMeth T.Queue "passed" (sp_Queue_passed T) [] (rVar 0) aNil) (rC (.int 1))) aNil)))
 (zRet (rBin oCat (rVar 1) (rLst (aCons (rVar 2) (aCons (rVar 3) aNil)))))) { nx := fun _ H' => fg (Q .non) H', rt := fun v H' => fg (Q v) H' } (fun c d _ H' => E c d H') [some (.ref x), some (.ref lf), some (.ref xp), some (.ref xg), z4] H7 := fun {z4 H7} h => by
    obtain ⟨H7', e7, kp2, P7, R7, ap7⟩ := h
    have P7 := P7.ex e7
    have R7 := R7.ex e7
    have A7 := A4.ex P7.xx
    obtain ⟨dx7, i7⟩ := A7.ins
    obtain ⟨dr, ir⟩ := R7.at_.ins
    walk_at "vc"
    refine ⟨xg, dr, _, rfl, ir, rfl, ?_⟩
    walk_at "vc"
    refine ⟨x, dx7, _, rfl, i7, rfl, Queue_passed_ok T A7 ?_⟩
    walk_at "vc"
    refine Queue_advance_ok T R7.at_ ok (show q.mark < q.mark + 1 by omega) (by unfold Big; omega) (by omega) R7.e1 fun kg2 H8 f8 n8 R8 => ?_
    have P8 := R7.other P7 ap7.swap f8
    have R8 := R7.op f8 n8 R8
    walk_at "vc"
    refine ⟨Nat.le_of_ble_eq_true rfl, fun t nt => ?_⟩
    have e9 := Ex.put (o := .lst [.ref xp, .ref xg]) nt
    have g9 := e9 _ _ (P8.xx _ _ g4)
    have h9 : upd H8 t (.lst [.ref xp, .ref xg]) t = some (.lst [.ref xp, .ref xg]) := upd_same
    have P9 := P8.ex e9
    have R9 := R8.ex e9
    generalize upd H8 t (.lst [.ref xp, .ref xg]) = H9 at g9 h9 P9 R9 ⊢
    refine ⟨lf, t, _, _, rfl, rfl, g9, h9, Nat.le_of_ble_eq_true rfl, fun r nr => ?_⟩
    have e10 := Ex.put (o := .lst ([V.ref x0, .ref x1] ++ [.ref xp, .ref xg])) nr
    have ex : Ex H4 (upd H9 r (.lst ([V.ref x0, .ref x1] ++ [.ref xp, .ref xg]))) := P9.xx.trans e10
    refine fg.i (k r [x0, x1, xp, xg] _ (y4.trans ex) upd_same rfl fun y hy => ?_)
    simp only [List.mem_cons, List.not_mem_nil, or_false] at hy
    rcases hy with rfl | rfl | rfl | rfl
    · exact o0.ex' ex
    · exact o1.ex' ex
    · refine ⟨_, _, _, P9.at_.ex e10, eqv_no fun z => ?_⟩
      have e : q.latest = some (q.bound + 1) := z.2.2.2
      rw [e] at eb
      have eb : q.bound = q.bound + 1 := eb
      omega
    · refine ⟨_, _, _, R9.at_.ex e10, eqv_no fun z => ?_⟩
      have e : q.mark = q.mark + 1 := z.2.2.1
      omega
  cases hl : q.latest with
  | none =>
    rw [hl] at eb
    have eb : q.bound = q.first - 1 := eb
    walk_at "vc"
    refine ⟨xp, dp6, _, rfl, ip6, rfl, ?_⟩
    refine ⟨rfl, fun _ => ?_, fun z => nomatch z⟩
    walk_at "vc"
    refine ⟨x, dx6, _, rfl, i6, rfl, Queue_start_ok T A6 ?_⟩
    have e1 : q.first = q.bound + 1 := by omega
    unfold aNil
    dsimp only
    rw [e1]
    exact push fun v H' h => tail h
  | some l =>
    rw [hl] at eb
    have eb : q.bound = l := eb
    walk_at "vc"
    refine ⟨xp, dp6, _, rfl, ip6, rfl, ?_⟩
    refine ⟨rfl, (fun z => nomatch z), fun _ => ?_⟩
    rw [← eb]
    exact push fun v H' h => tail h
end
section
variable {H : Hp} {Q : VK} {E : XK} {x kl cl : Addr} {q : Qst}
theorem eqv_me (q : Qst) : q.eqv q = true := by simp [Qst.eqv]
theorem arrived_lt : ∀ {cs : List Call} {b v : Int}, callsOk b cs → endB b cs < v → (cs.any fun c => match c with
    | (l, some h) => decide (l ≤ v) && decide (v ≤ h)
    | (_, none) => false) = false
  | [], b, v, _, _ => rfl
  | (l, some h) :: r, b, v, k, e => by
    obtain ⟨k1, k2, k3, k4⟩ := k
    have e : endB h r < v := e
    have hh : ∀ {cs : List Call} {b : Int}, callsOk b cs → b ≤ endB b cs := fun {cs} => by
      induction cs with
      | nil => exact fun {b} _ => Int.le_refl _
      | cons c r ih =>
        intro b k
        obtain ⟨l, o⟩ := c
        cases o with
        | none => exact ih k.2.2
        | some h =>
          have := ih k.2.2.2
          have k1 := k.1
          have k2 := k.2.1
          show b ≤ endB h r
          omega
    have := hh k4
    rw [List.any_cons, arrived_lt k4 e]
    show (decide (l ≤ v) && decide (v ≤ h) || false) = false
    rw [decide_eq_false (show ¬ v ≤ h by omega)]
    simp
  | (m, none) :: r, b, v, k, e => by
    rw [List.any_cons, arrived_lt k.2.2 e]
    rfl
theorem not_yet {v : Int} (ok : QOk q) (h : q.bound < v) : q.arrived v = false := arrived_lt ok.cs (by rw [ok.ce]; exact h)
theorem copies_ok (T : All K mg) (A : QAt T.Queue H x kl cl q) (ok : QOk q) (hb : q.bound < 1000000000000000000000000000000000000000000000000000000000000) (hm : q.mark < 1000000000000000000000000000000000000000000000000000000000000) (hc : q.calls.length < 90000)
    (k : ∀ H', Ex H H' → Q (.bl true) H') : sp__law_copies_right T [.ref x] H Q E := by
  have f0 := ok.f0
  have b0 := ok.b0
  have m0 := ok.m0
  have st := stD_shaped q
  unfold sp__law_copies_right
  refine ⟨rfl, ?_⟩
  walk_at "vc"
  refine state_ok T A ok fun t1 H1 e1 n1 s1 => ?_
  have A1 := A.ex e1
  obtain ⟨d1, i1⟩ := A1.ins
  unfold k10__law_copies_right
  walk_at "vc"
  refine ⟨x, d1, _, rfl, i1, rfl, ?_⟩
  refine Queue_copy_ok T A1 ok fun xp kp cp H2 e2 nxp nkp ncp ncc P2 => ?_
  obtain ⟨dp, ip⟩ := P2.ins
  unfold k9__law_copies_right
  walk_at "vc"
  refine ⟨xp, dp, _, rfl, ip, rfl, ?_⟩
  refine Queue_copy_ok T P2 ok fun xg kg cg H3 e3 nxg nkg ncg ncc2 R3 => ?_
  have e23 := e2.trans e3
  have P3 : Q1 T.Queue H1 H3 xp kp cp q := ⟨P2.ex e3, e23, nxp, ncp, ncc⟩
  have R3 : Q1 T.Queue H1 H3 xg kg cg q := ⟨R3, e23, e2.free nxg, e2.free ncg, ncc2⟩
  obtain ⟨op, sp_⟩ := P2.cl_some
  have ap : Ap xp kp cp xg kg cg := ⟨ne_of_none ip nxg, ne_of_none P2.kept ncg, (ne_of_none sp_ nkg).symm, ne_of_none sp_ ncg⟩
  have A3 := A1.ex e23
  obtain ⟨d3, i3⟩ := A3.ins
  obtain ⟨dp3, ip3⟩ := P3.at_.ins
  obtain ⟨dr3, ir3⟩ := R3.at_.ins
  unfold k8__law_copies_right
  walk_at "vc"
  refine ⟨xp, dp3, _, x, d3, _, rfl, rfl, ip3, i3, Queue_eq_ok T P3.at_ A3 ⟨_, rfl, ?_⟩⟩
  rw [eqv_me]
  refine ⟨(fun z => nomatch z), fun _ => ?_⟩
  walk_at "vc"
  refine ⟨xg, dr3, _, xp, dp3, _, rfl, rfl, ir3, ip3, Queue_eq_ok T R3.at_ P3.at_ ⟨_, rfl, ?_⟩⟩
  rw [eqv_me]
  refine ⟨(fun z => nomatch z), fun _ => ?_⟩
  unfold zNil
  dsimp only
  unfold k7__law_copies_right
  walk_at "vc"
  refine state_ok T P3.at_ ok fun t4 H4 e4 n4 s4 => ?_
  walk_at "vc"
  refine state_ok T (R3.at_.ex e4) ok fun t5 H5 e5 n5 s5 => ?_
  walk_at "vc"
  refine ⟨Nat.le_of_ble_eq_true rfl, fun t6 n6 => ?_⟩
  have e6 := Ex.put (o := .lst [.ref t4, .ref t5]) n6
  have g6 : upd H5 t6 (.lst [.ref t4, .ref t5]) t6 = some (.lst [.ref t4, .ref t5]) := upd_same
  have s4 := Dp.ex (e5.trans e6) s4
  have s5 := Dp.ex e6 s5
  have e46 := e4.trans (e5.trans e6)
  generalize upd H5 t6 (.lst [.ref t4, .ref t5]) = H6 at e46 g6 s4 s5 ⊢
  refine ⟨Nat.le_of_ble_eq_true rfl, fun t7 n7 => ?_⟩
  have e7 := Ex.put (o := .lst [.ref t1, .ref t1]) n7
  have s1b := Dp.ex ((e23.trans e46).trans e7) s1
  have lay2 : Lay 5 (.list [stD q, stD q]) := Lay.lst fun d hd => by
    simp only [List.mem_cons, List.not_mem_nil, or_false] at hd
    rcases hd with rfl | rfl <;> exact stD_lay q
  refine ⟨.list [stD q, stD q], .list [stD q, stD q], .lst (.of (e7 _ _ g6)) (.cons (Dp.ex e7 s4) (.cons (Dp.ex e7 s5) .nil)), .lst (.of upd_same) (.cons s1b (.cons s1b .nil)), lay2.shaped (by decide), lay2.shaped (by decide), ?_⟩
  rw [data_same (lay2.shaped (by decide))]
  have e37 := e46.trans e7
  generalize upd H6 t7 (.lst [.ref t1, .ref t1]) = H7 at e37 s1b ⊢
  clear e46 e7 s4 s5 g6
  refine ⟨(fun z => nomatch z), fun _ => ?_⟩
  unfold zNil
  dsimp only
  have P7 := P3.ex e37
  have R7 := R3.ex e37
  obtain ⟨dp7, ip7⟩ := P7.at_.ins
  unfold k6__law_copies_right
  walk_at "vc"
  refine ⟨xp, dp7, _, rfl, ip7, rfl, ?_⟩
  walk_at "vc"
  refine ⟨xp, dp7, _, rfl, ip7, rfl, Queue_passed_ok T P7.at_ ?_⟩
  walk_at "vc"
  refine Queue_advance_ok T P7.at_ ok (show q.mark < q.mark + 3 by omega) (by unfold Big; omega) (by omega) P7.e1 fun kp2 H8 f8 n8 P8 => ?_
  have R8 := P7.other R7 ap f8
  have P8 := P7.op f8 n8 P8
  have ap8 := ap.op R7 n8
  obtain ⟨dr8, ir8⟩ := R8.at_.ins
  unfold k5__law_copies_right
  walk_at "vc"
  refine ⟨xg, dr8, _, rfl, ir8, rfl, Queue_newest_ok T R8.at_ ?_⟩
  have first : ∀ (D : Ends) (W : WX) (z6 : Option V), k3__law_copies_right T D W [some (.ref x), some (.ref t1), some (.ref xp), some (.ref xg), some (optV q.latest), some (.int (q.bound + 1)), z6] H8 → k4__law_copies_right T D W [some (.ref x), some (.ref t1), some (.ref xp), some (.ref xg), some (optV q.latest), none, z6] H8 := fun D W z6 h => by
    have eb : q.bound = match q.latest with
      | none => q.first - 1
      | some l => l := rfl
    unfold k4__law_copies_right
    cases hl : q.latest with
    | none =>
      rw [hl] at eb h
      have eb : q.bound = q.first - 1 := eb
      rw [eb, Int.sub_add_cancel] at h
      walk_at "vc"
      refine ⟨rfl, fun _ => ?_, fun z => nomatch z⟩
      walk_at "vc"
      refine ⟨xg, dr8, _, rfl, ir8, rfl, Queue_start_ok T R8.at_ ?_⟩
      exact h
    | some l =>
      rw [hl] at eb h
      have eb : q.bound = l := eb
      rw [eb] at h
      walk_at "vc"
      exact ⟨rfl, (fun z => nomatch z), fun _ => h⟩
  refine first _ _ _ ?_
  clear first
  unfold k3__law_copies_right
  walk_at "vc"
  refine ⟨xg, dr8, _, rfl, ir8, rfl, ?_⟩
  refine Queue_push_range_ok T R8.at_ ok (show q.bound < q.bound + 1 by omega) (show q.bound + 1 ≤ q.bound + 1 + 30 by omega) (by unfold Big; omega) (by omega) R8.e1 fun kg2 H9 f9 n9 R9 => ?_
  have P9 := R8.other P8 ap8.swap f9
  have R9 := R8.op f9 n9 R9
  have A9 := A1.ex P9.xx
  have s9 : Dp K H9 (.ref t1) (stD q) := Dp.ex P9.xx s1
  have ex := P9.xx
  obtain ⟨d9, i9⟩ := A9.ins
  obtain ⟨dp9, ip9⟩ := P9.at_.ins
  obtain ⟨dr9, ir9⟩ := R9.at_.ins
  have q1 : (q.advance (q.mark + 3)).eqv q = false := eqv_no fun z => by
    have : q.mark + 3 = q.mark := z.2.2.1
    omega
  have q2 : (q.arrive (q.bound + 1) (q.bound + 1 + 30)).eqv q = false := eqv_no fun z => by
    have e : some (q.bound + 1 + 30) = q.latest := z.2.2.2
    have eb : q.bound = match q.latest with
      | none => q.first - 1
      | some l => l := rfl
    rw [← e] at eb
    have eb : q.bound = q.bound + 1 + 30 := eb
    omega
  have q3 : (q.advance (q.mark + 3)).eqv (q.arrive (q.bound + 1) (q.bound + 1 + 30)) = false := eqv_no fun z => by
    have : q.mark + 3 = q.mark := z.2.2.1
    omega
  unfold k2__law_copies_right
  walk_at "vc"
  refine ⟨xp, dp9, _, x, d9, _, rfl, rfl, ip9, i9, Queue_eq_ok T P9.at_ A9 ⟨_, rfl, ?_⟩⟩
  rw [q1]
  refine ⟨fun _ => ?_, fun z => nomatch z⟩
  walk_at "vc"
  refine ⟨xg, dr9, _, x, d9, _, rfl, rfl, ir9, i9, Queue_eq_ok T R9.at_ A9 ⟨_, rfl, ?_⟩⟩
  rw [q2]
  refine ⟨fun _ => ?_, fun z => nomatch z⟩
  walk_at "vc"
  refine ⟨xp, dp9, _, xg, dr9, _, rfl, rfl, ip9, ir9, Queue_eq_ok T P9.at_ R9.at_ ⟨_, rfl, ?_⟩⟩
  rw [q3]
  walk_at "vc"
  refine ⟨fun _ => ?_, fun z => nomatch z⟩
  walk_at "vc"
  refine state_ok T A9 ok fun ta Ha ea na sa => ?_
  refine ⟨stD q, stD q, sa, Dp.ex ea s9, st, st, ?_⟩
  rw [data_same st]
  exact fg.i (k _ (e1.trans (ex.trans ea)))
def someF (f : Int) : List Int := [if f - 2 > 0 then f - 2 else 0, if f - 1 > 0 then f - 1 else 0, f, f + 1, f + 4, f + 9, f + 20, f + 29]
theorem someF_b {f v : Int} (h0 : 0 ≤ f) (hb : f < 1000000000000000000000000000000000000000000000000000000000000) (h : v ∈ someF f) : 0 ≤ v ∧ Big v := by
  unfold someF at h
  unfold Big
  simp only [List.mem_cons, List.not_mem_nil, or_false] at h
  rcases h with rfl | rfl | rfl | rfl | rfl | rfl | rfl | rfl
  · split <;> omega
  · split <;> omega
  all_goals omega
theorem dropD_l (o : Option Drop) : Lay 2 (dropD o) := ⟨dropD_lay o, dropD_depth o⟩
/-- `[queue.drop_of(v) for v in some]` -/
theorem drops_lc (T : All K mg) {l a : Addr} {σ0 : St} {vs : List Int} (A : QAt T.Queue H a kl cl q) (ok : QOk q) (hl : H l = some (.lst (vs.map V.int))) (hn : vs.length ≤ 100) (hv : ∀ v ∈ vs, 0 ≤ v ∧ Big v) {elt : RX}
    (he : ∀ (v : Int) (G : Hp) (R : VK), (∃ d, G a = some (.ins T.Queue d (fsQ q kl cl))) → sp_Queue_drop_of T [.ref a, .int v] G R (fun _ _ _ => False) → elt (put (wipe σ0 [7]) 7 (.int v)) G R noW)
    (done : ∀ ys r H', Ex H H' → DpAll K H' ys ((vs.map q.dropOf).map dropD) → H' r = none → Q (.ref r) (upd H' r (.lst ys))) :
    LcB (vs.map V.int).length (fun H => SqL K H l (vs.map V.int)) (yAt (vs.map V.int)) (gName 7) tY elt [7] σ0 H Q := by
  refine lc_grow2 (fun i y H => ∃ v, vs[i]? = some v ∧ Dp K H y (dropD (q.dropOf v))) (fun i y H1 H2 x ⟨v, h1, h2⟩ => ⟨v, h1, Dp.ex x h2⟩) (by rw [List.length_map]; omega) (fun H' x => .of (x _ _ hl)) (fun i x d acc H' R hx x5 nd k => ?_) fun ys r H3 x3 hl2 hy nr => ?_
  · rw [List.getElem?_map] at hx
    obtain ⟨v, hv1, rfl⟩ := Option.map_eq_some_iff.mp hx
    have hb := hv v (List.mem_of_getElem? hv1)
    have A5 := A.ex (x5.trans (Ex.put (o := .lst acc) nd))
    refine he v _ R A5.ins ?_
    refine Queue_drop_of_ok T A5 ok hb.1 hb.2 (fun e H2 x2 => k _ _ x2 ⟨v, hv1, ?_⟩) (fun dd e t r2 H2 x2 _ e1 e2 => k _ _ x2 ⟨v, hv1, ?_⟩)
    · rw [e]
      exact .non
    · rw [e]
      have hd := x2 d _ upd_same
      refine drop_dp (t := t) (r2 := r2) ?_ ?_
      · rw [del_ne (ne_kind e1 hd (fun e => by cases e))]
        exact e1
      · rw [del_ne (ne_kind e2 hd (fun e => by cases e))]
        exact e2
  · refine done ys r H3 x3 (dps_of (by simp [hl2]) fun i y d a b => ?_) nr
    obtain ⟨v, h1, h2⟩ := hy i y a
    rw [List.getElem?_map, List.getElem?_map, h1] at b
    cases b
    exact h2
end
section
variable {H0 H : Hp} {Q : VK} {E : XK} {x kl cl x2 kl2 cl2 : Addr} {q : Qst}
theorem goes_ok (T : All K mg) (P : Q1 T.Queue H0 H x kl cl q) (R : Q1 T.Queue H0 H x2 kl2 cl2 q) (ap : Ap x kl cl x2 kl2 cl2) (ok : QOk q) (hb : q.bound < 100000000000000000000000000000000000000000000000000000000000) (hc : q.calls.length < 90000)
    (k : ∀ H', Ex H0 H' → Q (.bl true) H') : sp__law_goes_on T [.ref x, .ref x2] H Q E := by
  have f0 := ok.f0
  have b0 := ok.b0
  have m0 := ok.m0
  have sh2 : Lay 1 (.list [.bool false, .bool false]) := Lay.lst fun d hd => by
    simp only [List.mem_cons, List.not_mem_nil, or_false] at hd
    rcases hd with rfl | rfl <;> exact .bl
  obtain ⟨dx, i⟩ := P.at_.ins
  unfold sp__law_goes_on
  refine ⟨rfl, ?_⟩
  walk_at "vc"
  refine ⟨x, dx, _, rfl, i, rfl, Queue_newest_ok T P.at_ ?_⟩
  have first : ∀ (D : Ends) (W : WX) (z4 z5 z6 z7 : Option V), k9__law_goes_on T D W [some (.ref x), some (.ref x2), some (optV q.latest), some (.int (q.bound + 1)), z4, z5, z6, z7] H → k10__law_goes_on T D W [some (.ref x), some (.ref x2), some (optV q.latest), none, z4, z5, z6, z7] H := fun D W z4 z5 z6 z7 h => by
    have eb : q.bound = match q.latest with
      | none => q.first - 1
      | some l => l := rfl
    unfold k10__law_goes_on
    cases hl : q.latest with
    | none =>
      rw [hl] at eb h
      have eb : q.bound = q.first - 1 := eb
      rw [eb, Int.sub_add_cancel] at h
      walk_at "vc"
      refine ⟨rfl, fun _ => ?_, fun z => nomatch z⟩
      walk_at "vc"
      refine ⟨x, dx, _, rfl, i, rfl, Queue_start_ok T P.at_ ?_⟩
      exact h
    | some l =>
      rw [hl] at eb h
      have eb : q.bound = l := eb
      rw [eb] at h
      walk_at "vc"
      exact ⟨rfl, (fun z => nomatch z), fun _ => h⟩
  refine first _ _ _ _ _ _ ?_
  clear first
  unfold k9__law_goes_on
  walk_at "vc"
  refine ⟨x, dx, _, rfl, i, rfl, Queue_arrived_ok T P.at_ (by omega) (by omega) ?_⟩
  rw [not_yet ok (by omega)]
  walk_at "vc"
  refine ⟨x, dx, _, rfl, i, rfl, ?_⟩
  walk_at "vc"
  refine Queue_arrived_ok T P.at_ (by omega) (by omega) ?_
  rw [not_yet ok (by omega)]
  refine ⟨Nat.le_of_ble_eq_true rfl, fun t1 n1 => ?_⟩
  have e1 := Ex.put (o := .lst [.bl false, .bl false]) n1
  have g1 : upd H t1 (.lst [.bl false, .bl false]) t1 = some (.lst [.bl false, .bl false]) := upd_same
  generalize upd H t1 (.lst [.bl false, .bl false]) = H1 at e1 g1 ⊢
  refine ⟨Nat.le_of_ble_eq_true rfl, fun t2 n2 => ?_⟩
  have e2 := Ex.put (o := .lst [.bl false, .bl false]) n2
  refine ⟨.list [.bool false, .bool false], .list [.bool false, .bool false], .lst (.of (e2 _ _ g1)) (.cons (.bl _) (.cons (.bl _) .nil)), .lst (.of upd_same) (.cons (.bl _) (.cons (.bl _) .nil)), sh2.shaped (by decide), sh2.shaped (by decide), ?_⟩
  rw [data_same (sh2.shaped (by decide))]
  refine ⟨(fun z => nomatch z), fun _ => ?_⟩
  unfold zNil
  dsimp only
  have P2 := P.ex (e1.trans e2)
  have R2 := R.ex (e1.trans e2)
  generalize upd H1 t2 (.lst [.bl false, .bl false]) = H2 at P2 R2 ⊢
  clear e1 e2 g1 n1 n2
  obtain ⟨d2, i2⟩ := P2.at_.ins
  unfold k8__law_goes_on
  walk_at "vc"
  refine ⟨x, d2, _, rfl, i2, rfl, Queue_waiting_ok T P2.at_ fun w nw => ?_⟩
  have e3 := Ex.put (o := .lst (q.kept.map V.int)) nw
  have P3 := P2.ex e3
  have R3 := R2.ex e3
  have gw : upd H2 w (.lst (q.kept.map V.int)) w = some (.lst (q.kept.map V.int)) := upd_same
  obtain ⟨oc, sc⟩ := P2.at_.cl_some
  obtain ⟨oc2, sc2⟩ := R2.at_.cl_some
  have w1 : w ≠ cl := (ne_of_none sc nw).symm
  have w2 : w ≠ cl2 := (ne_of_none sc2 nw).symm
  show aCons _ _ _ (upd H2 w (.lst (q.kept.map V.int))) _ _
  generalize upd H2 w (.lst (q.kept.map V.int)) = H3 at P3 R3 gw ⊢
  obtain ⟨d3, i3⟩ := P3.at_.ins
  walk_at "vc"
  refine ⟨x, d3, _, rfl, i3, rfl, Queue_waiting_ok T P3.at_ fun w3 nw3 => ?_⟩
  have e4 := Ex.put (o := .lst (q.kept.map V.int)) nw3
  refine ⟨.list (q.kept.map PyData.int), .lst (.of upd_same) (dp_ints _), kept_rp ok, ?_⟩
  have P4 := P3.ex e4
  have R4 := R3.ex e4
  have gw := e4 _ _ gw
  generalize upd H3 w3 (.lst (q.kept.map V.int)) = H4 at P4 R4 gw ⊢
  obtain ⟨d4, i4⟩ := P4.at_.ins
  unfold aNil
  dsimp only
  unfold k7__law_goes_on
  walk_at "vc"
  refine ⟨x, d4, _, rfl, i4, rfl, ?_⟩
  have big : Big (q.bound + 1 + 29) := by unfold Big; omega
  refine Queue_push_range_ok T P4.at_ ok (show q.bound < q.bound + 1 by omega) (show q.bound + 1 ≤ q.bound + 1 + 29 by omega) big (by omega) P4.e1 fun kl3 H5 f5 n5 P5 => ?_
  have R5 := P4.other R4 ap f5
  have gw := at_lst P4 f5 gw w1
  have ap5 := ap.op R4 n5
  have P5 := P4.op f5 n5 P5
  obtain ⟨d5, i5⟩ := R5.at_.ins
  unfold k6__law_goes_on
  walk_at "vc"
  refine ⟨x2, d5, _, rfl, i5, rfl, ?_⟩
  refine Queue_push_range_ok T R5.at_ ok (show q.bound < q.bound + 1 by omega) (show q.bound + 1 ≤ q.bound + 1 + 29 by omega) big (by omega) R5.e1 fun kl4 H6 f6 n6 R6 => ?_
  have P6 := R5.other P5 ap5.swap f6
  have gw := at_lst R5 f6 gw w2
  have R6 := R5.op f6 n6 R6
  have ok2 : QOk (q.arrive (q.bound + 1) (q.bound + 1 + 29)) := ok.arrive (by omega) (by omega) big (by omega)
  have hc2 : (q.arrive (q.bound + 1) (q.bound + 1 + 29)).calls.length < 100000 := by
    show (q.calls ++ [_]).length < 100000
    rw [List.length_append, List.length_singleton]
    omega
  generalize q.arrive (q.bound + 1) (q.bound + 1 + 29) = q2 at P6 R6 ok2 hc2
  clear P5 R5 P4 R4 P3 R3 f5 f6
  unfold k5__law_goes_on
  walk_at "vc"
  refine ⟨.list (q.kept.map PyData.int), .lst (.of gw) (dp_ints _), kept_rp ok, ?_⟩
  walk_at "vc"
  refine ⟨(fun z => absurd z (by simp)), fun _ => ?_⟩
  unfold zNil
  dsimp only
  unfold k4__law_goes_on
  walk_at "vc"
  refine ⟨Nat.le_of_ble_eq_true rfl, fun l nl => ?_⟩
  have e7 := Ex.put (o := .lst ((someF (q.bound + 1)).map V.int)) nl
  have P7 := P6.ex e7
  have R7 := R6.ex e7
  have gl : upd H6 l (.lst ((someF (q.bound + 1)).map V.int)) l = some (.lst ((someF (q.bound + 1)).map V.int)) := upd_same
  show k3__law_goes_on T _ _ _ (upd H6 l (.lst ((someF (q.bound + 1)).map V.int)))
  generalize upd H6 l (.lst ((someF (q.bound + 1)).map V.int)) = H7 at P7 R7 gl ⊢
  have hv : ∀ v ∈ someF (q.bound + 1), 0 ≤ v ∧ Big v := fun v h => someF_b (by omega) (by omega) h
  have hn : (someF (q.bound + 1)).length ≤ 100 := Nat.le_of_ble_eq_true rfl
  generalize someF (q.bound + 1) = vs at gl hv hn ⊢
  clear P6 R6 P2 R2 P R
  have lay : Lay 1 (.list ((vs.map q2.arrived).map PyData.bool)) := Lay.lst fun d hd => by
    obtain ⟨b, _, rfl⟩ := List.mem_map.mp hd
    exact .bl
  have dpb : ∀ {H' : Hp}, DpAll K H' (vs.map fun v => V.bl (q2.arrived v)) ((vs.map q2.arrived).map PyData.bool) := fun {H'} => dps_of (by simp) fun j y d a b => by
    rw [List.getElem?_map] at a
    rw [List.getElem?_map, List.getElem?_map] at b
    obtain ⟨v, hv, rfl⟩ := Option.map_eq_some_iff.mp a
    rw [hv] at b
    cases b
    exact .bl _
  unfold k3__law_goes_on
  walk_at "vc"
  refine ⟨l, _, rfl, .of gl, ?_⟩
  refine lc_ints0 (fun v => .bl (q2.arrived v)) (by omega) (.of gl) (fun v d acc R hm nd kk => ?_) fun l1 nl1 => ?_
  · have e := Ex.put (o := .lst acc) nd
    obtain ⟨dd, ii⟩ := (P7.at_.ex e).ins
    walk_at "vc"
    exact ⟨x, dd, _, rfl, ii, rfl, Queue_arrived_ok T (P7.at_.ex e) hc2 (hv v hm).1 (kk _ (Ex.refl _))⟩
  have e8 := Ex.put (o := .lst (vs.map fun v => V.bl (q2.arrived v))) nl1
  have g1 : upd H7 l1 (.lst (vs.map fun v => V.bl (q2.arrived v))) l1 = some (.lst (vs.map fun v => V.bl (q2.arrived v))) := upd_same
  have P8 := P7.ex e8
  have R8 := R7.ex e8
  have gl := e8 _ _ gl
  generalize upd H7 l1 (.lst (vs.map fun v => V.bl (q2.arrived v))) = H8 at P8 R8 gl g1 ⊢
  walk_at "vc"
  refine ⟨l, _, rfl, .of gl, ?_⟩
  refine lc_ints0 (fun v => .bl (q2.arrived v)) (by omega) (.of gl) (fun v d acc R hm nd kk => ?_) fun l2 nl2 => ?_
  · have e := Ex.put (o := .lst acc) nd
    obtain ⟨dd, ii⟩ := (R8.at_.ex e).ins
    walk_at "vc"
    exact ⟨x2, dd, _, rfl, ii, rfl, Queue_arrived_ok T (R8.at_.ex e) hc2 (hv v hm).1 (kk _ (Ex.refl _))⟩
  have e9 := Ex.put (o := .lst (vs.map fun v => V.bl (q2.arrived v))) nl2
  refine ⟨.list ((vs.map q2.arrived).map PyData.bool), .list ((vs.map q2.arrived).map PyData.bool), .lst (.of (e9 _ _ g1)) dpb, .lst (.of upd_same) dpb, lay.shaped (by decide), lay.shaped (by decide), ?_⟩
  rw [data_same (lay.shaped (by decide))]
  have P9 := P8.ex e9
  have R9 := R8.ex e9
  have gl := e9 _ _ gl
  generalize upd H8 l2 (.lst (vs.map fun v => V.bl (q2.arrived v))) = H9 at P9 R9 gl ⊢
  refine ⟨(fun z => nomatch z), fun _ => ?_⟩
  unfold zNil
  dsimp only
  obtain ⟨d9, i9⟩ := P9.at_.ins
  obtain ⟨c9, j9⟩ := R9.at_.ins
  unfold k2__law_goes_on
  walk_at "vc"
  refine ⟨x, d9, _, x2, c9, _, rfl, rfl, i9, j9, Queue_eq_ok T P9.at_ R9.at_ ⟨_, rfl, ?_⟩⟩
  rw [eqv_me]
  refine ⟨(fun z => nomatch z), fun _ => ?_⟩
  unfold zNil
  dsimp only
  have layd : Lay 3 (.list ((vs.map q2.dropOf).map dropD)) := Lay.lst fun d hd => by
    obtain ⟨o, _, rfl⟩ := List.mem_map.mp hd
    exact dropD_l o
  unfold k1__law_goes_on
  walk_at "vc"
  refine ⟨l, _, rfl, .of gl, ?_⟩
  refine drops_lc T P9.at_ ok2 gl hn hv (fun v G R hi h => ?_) fun ys r Ha xa da nr => ?_
  · obtain ⟨dd, ii⟩ := hi
    walk_at "vc"
    exact ⟨x, dd, _, rfl, ii, rfl, h⟩
  have ea := xa.trans (Ex.put (o := .lst ys) nr)
  have da := DpAll.ex (Ex.put (o := .lst ys) nr) da
  have ga : upd Ha r (.lst ys) r = some (.lst ys) := upd_same
  have R10 := R9.ex ea
  have gl := ea _ _ gl
  have y := P9.xx.trans ea
  generalize upd Ha r (.lst ys) = H10 at R10 gl ga da y ⊢
  walk_at "vc"
  refine ⟨l, _, rfl, .of gl, ?_⟩
  refine drops_lc T R10.at_ ok2 gl hn hv (fun v G R hi h => ?_) fun zs r2 Hb xb db nr2 => ?_
  · obtain ⟨dd, ii⟩ := hi
    walk_at "vc"
    exact ⟨x2, dd, _, rfl, ii, rfl, h⟩
  have eb := xb.trans (Ex.put (o := .lst zs) nr2)
  refine ⟨.list ((vs.map q2.dropOf).map dropD), .list ((vs.map q2.dropOf).map dropD), .lst (.of (eb _ _ ga)) (DpAll.ex eb da), .lst (.of upd_same) (DpAll.ex (Ex.put nr2) db), layd.shaped (by decide), layd.shaped (by decide), ?_⟩
  rw [data_same (layd.shaped (by decide))]
  exact fg.i (k _ (y.trans eb))
end
theorem state_x (T : All K mg) {p x kl cl : Addr} {ps : List V} {q : Qst} {H : Hp} {Q : VK} {E : XK} (hp : H p = some (.lst ps)) (A : QAt T.Queue H x kl cl q) (ok : QOk q) (k : ∀ t H', Ex H H' → H t = none → Dp K (del H' p) (.ref t) (stD q) → Q (.ref t) H') : sp__law_state T [.ref x] H Q E := by
  obtain ⟨dx, i⟩ := A.ins
  unfold sp__law_state
  refine ⟨rfl, ?_⟩
  walk_at "vc"
  refine ⟨x, dx, _, rfl, i, rfl, Queue_capacity_ok T A ?_⟩
  walk_at "vc"
  refine ⟨x, dx, _, rfl, i, rfl, Queue_start_ok T A ?_⟩
  walk_at "vc"
  refine ⟨x, dx, _, rfl, i, rfl, Queue_passed_ok T A ?_⟩
  walk_at "vc"
  refine ⟨x, dx, _, rfl, i, rfl, Queue_newest_ok T A ?_⟩
  walk_at "vc"
  refine ⟨x, dx, _, rfl, i, rfl, Queue_waiting_ok T A fun w nw => ?_⟩
  have dex : ∀ {G1 G2 : Hp}, Ex G1 G2 → Ex (del G1 p) (del G2 p) := fun {G1 G2} e b o h => by
    have nb : b ≠ p := fun z => by
      rw [z, del_same] at h
      cases h
    rw [del_ne nb] at h ⊢
    exact e _ _ h
  have nwp : w ≠ p := (ne_of_none hp nw).symm
  have y1 := Ex.put (o := .lst (q.kept.map V.int)) nw
  have g1 : upd H w (.lst (q.kept.map V.int)) w = some (.lst (q.kept.map V.int)) := upd_same
  generalize upd H w (.lst (q.kept.map V.int)) = H1 at y1 g1 ⊢
  refine ⟨Nat.le_of_ble_eq_true rfl, fun a na => ?_⟩
  have nap : a ≠ p := (ne_of_none (y1 _ _ hp) na).symm
  have y2 := y1.trans (Ex.put (o := .lst [.int q.size, .int q.first, .int q.mark, optV q.latest, .ref w]) na)
  have g1 := Ex.put (o := .lst [.int q.size, .int q.first, .int q.mark, optV q.latest, .ref w]) na _ _ g1
  have g2 : upd H1 a (.lst [.int q.size, .int q.first, .int q.mark, optV q.latest, .ref w]) a = some (.lst [.int q.size, .int q.first, .int q.mark, optV q.latest, .ref w]) := upd_same
  generalize upd H1 a (.lst [.int q.size, .int q.first, .int q.mark, optV q.latest, .ref w]) = H2 at y2 g1 g2 ⊢
  walk_at "vc"
  refine ⟨by decide, ?_⟩
  refine lc_growR (fun i y H => Dp K (del H p) y (dropD (q.dropOf i))) (fun i y H1 H2 x h => Dp.ex (dex x) h) (by decide) (fun j d acc H' R hj x5 nd kk => ?_) fun ys r H3 x3 hl hy nr => ?_
  · have A2 := A.ex ((y2.trans x5).trans (Ex.put (o := .lst acc) nd))
    obtain ⟨d2, i2⟩ := A2.ins
    have hj4 : j < 3 := hj
    walk_at "vc"
    refine ⟨x, d2, _, rfl, i2, rfl, ?_⟩
    refine Queue_drop_of_ok T A2 ok (by omega) (by unfold Big; omega) (fun e H2 x2 => kk _ _ x2 ?_) (fun dd e t r2 H2 x2 _ e1 e2 => kk _ _ x2 ?_)
    · rw [e]
      exact .non
    · rw [e]
      have hd := x2 d _ upd_same
      have hpp := x2 _ _ (hp_ne nd (x5 _ _ (y2 _ _ hp)))
      refine drop_dp (t := t) (r2 := r2) ?_ ?_
      · rw [del_ne (ne_kind e1 hpp (fun e => by cases e)), del_ne (ne_kind e1 hd (fun e => by cases e))]
        exact e1
      · rw [del_ne (ne_kind e2 hpp (fun e => by cases e)), del_ne (ne_kind e2 hd (fun e => by cases e))]
        exact e2
  · obtain ⟨z0, z1, z2, rfl⟩ := three28 hl
    have k0 := hy 0 _ rfl
    have k1 := hy 1 _ rfl
    have k2 := hy 2 _ rfl
    have g1 := x3 _ _ g1
    have g2 := x3 _ _ g2
    have y3 := y2.trans x3
    have nrp : r ≠ p := (ne_of_none (y3 _ _ hp) nr).symm
    have y4 : Ex H3 (upd H3 r (.lst [z0, z1, z2])) := Ex.put nr
    have g3 : upd H3 r (.lst [z0, z1, z2]) r = some (.lst [z0, z1, z2]) := upd_same
    generalize upd H3 r (.lst [z0, z1, z2]) = H4 at y4 g3 ⊢
    have A4 := A.ex (y3.trans y4)
    obtain ⟨d4, i4⟩ := A4.ins
    walk_at "vc"
    refine ⟨x, d4, _, rfl, i4, rfl, Queue_lag_ok T A4 ?_⟩
    walk_at "vc"
    refine ⟨x, d4, _, rfl, i4, rfl, Queue_greatest_lag_ok T A4 ?_⟩
    refine ⟨Nat.le_of_ble_eq_true rfl, fun b nb => ?_⟩
    have nbp : b ≠ p := (ne_of_none (y4 _ _ (y3 _ _ hp)) nb).symm
    have y5 := y4.trans (Ex.put (o := .lst [.int q.lag, .int q.most]) nb)
    have g3 := Ex.put (o := .lst [.int q.lag, .int q.most]) nb _ _ g3
    have g4 : upd H4 b (.lst [.int q.lag, .int q.most]) b = some (.lst [.int q.lag, .int q.most]) := upd_same
    generalize upd H4 b (.lst [.int q.lag, .int q.most]) = H5 at y5 g3 g4 ⊢
    have A5 := A.ex (y3.trans y5)
    obtain ⟨d5, i5⟩ := A5.ins
    have kl := ok.klen
    have c9 := ok.c9
    walk_at "vc"
    refine ⟨x, d5, _, rfl, i5, Queue_len_ok T A5 ⟨⟨by omega, by omega⟩, ?_⟩⟩
    walk_at "vc"
    refine ⟨x, d5, _, rfl, i5, Queue_repr_ok T A5 ok ?_⟩
    refine ⟨Nat.le_of_ble_eq_true rfl, fun t nt => ?_⟩
    have ntp : t ≠ p := (ne_of_none (y5 _ _ (y3 _ _ hp)) nt).symm
    have y6 := Ex.put (o := .lst [.ref a, .ref b, .int q.kept.length, .str q.text, .ref r]) nt
    have y56 := y5.trans y6
    exact fg.i (k t _ (y3.trans y56) ((y3.trans y5).free nt) (.lst (.of (by rw [del_ne ntp]; exact upd_same)) (.cons (.lst (.of (by rw [del_ne nap]; exact y56 _ _ g2)) (.cons (.int _) (.cons (.int _) (.cons (.int _) (.cons (dp_opt _) (.cons (.lst (.of (by rw [del_ne nwp]; exact y56 _ _ g1)) (dp_ints _)) .nil)))))) (.cons (.lst (.of (by rw [del_ne nbp]; exact y6 _ _ g4)) (.cons (.int _) (.cons (.int _) .nil))) (.cons (.int _) (.cons (.str _) (.cons (.lst (.of (by rw [del_ne nrp]; exact y6 _ _ g3)) (.cons (Dp.ex (dex y56) k0) (.cons (Dp.ex (dex y56) k1) (.cons (Dp.ex (dex y56) k2) .nil)))) .nil)))))))
def runF (r : Qst × PS) : Nat → Qst × PS
  | 0 => r
  | n + 1 => callF (runF r n).1 (runF r n).2
theorem QAt.cut {C p x kl cl : Addr} {H : Hp} {q : Qst} {xs : List V} (A : QAt C H x kl cl q) (hp : H p = some (.lst xs)) (n1 : p ≠ kl) (n2 : p ≠ cl) : QAt C (del H p) x kl cl q := by
  obtain ⟨dx, i⟩ := A.ins
  refine A.fr (L := [p]) (fun b o n e => by rw [del_ne (by simpa using n)]; exact e) ?_ ?_ ?_ fun b hb xs e => ?_
  · simp; exact ne_kind i hp (fun e => by cases e)
  · simp; exact n1.symm
  · simp; exact n2.symm
  · simp at hb
    subst hb
    rw [hp] at e
    cases e
theorem ex_del {H : Hp} {p : Addr} : Ex (del H p) H := fun b o e => by
  have nb : b ≠ p := fun z => by
    rw [z, del_same] at e
    cases e
  rwa [del_ne nb] at e
section
variable {H0 H : Hp} {Q : VK} {E : XK} {x kl cl x2 kl2 cl2 p s5 : Addr} {q : Qst} {D : Ends} {W : WX} {z1 z3 z6 z7 : Option V}
/-- what stands once both queues are made -/
structure Two (C : Addr) (H0 H : Hp) (x kl cl x2 kl2 cl2 : Addr) (q : Qst) : Prop where
  a : Q1 C H0 H x kl cl q
  b : Q1 C H0 H x2 kl2 cl2 q
  ap : Ap x kl cl x2 kl2 cl2
  ok : QOk q
  hb : q.bound < 100000000000000000000000000000000000000000000000000000000000
  hm : q.mark < 100000000000000000000000000000000000000000000000000000000000
  hc : q.calls.length < 80000
theorem Two.ex {C : Addr} {H' : Hp} (t : Two C H0 H x kl cl x2 kl2 cl2 q) (e : Ex H H') : Two C H0 H' x kl cl x2 kl2 cl2 q := ⟨t.a.ex e, t.b.ex e, t.ap, t.ok, t.hb, t.hm, t.hc⟩
theorem k4_ok (T : All K mg) {l : Addr} {vs : List V} (t : Two T.Queue H0 H x kl cl x2 kl2 cl2 q) (st : Dp K H (.ref s5) (stD q)) (gl : H l = some (.lst vs)) (hn : vs.length ≤ 100) (hv : ∀ v ∈ vs, ∀ H', Ex H H' → ∃ u, AnyT K H' v u ∧ PySem.W.kitOne K u (.ref T.Queue) = some false ∧ PySem.W.notFirst K T.Queue u = true) (k : ∀ H', Ex H0 H' → D.rt (.bl true) H') :
    k4__law_right T D W [some (.ref p), z1, some (.ref x), z3, some (.ref x2), some (.ref s5), z6, some (.ref l)] H := by
  have sh := stD_shaped q
  unfold k4__law_right
  walk_at "vc"
  refine ⟨l, _, rfl, .of gl, ?_⟩
  refine lc_at (fun _ y => y = .bl false) (by omega) (.of gl) (fun j y dd acc R hy nd kk => ?_) fun zs zl hl hz nzl => ?_
  · have xd := Ex.put (o := .lst acc) nd
    obtain ⟨dx, i⟩ := (t.a.at_.ex xd).ins
    obtain ⟨u, h1, h2, h3⟩ := hv y (List.mem_of_getElem? hy) _ xd
    walk_at "vc"
    refine ⟨x, dx, _, u, rfl, i, h1, h3, ?_⟩
    exact Queue_eq_no T h1 h2 ⟨_, rfl, kk _ _ (Ex.refl _) rfl⟩
  · have ez : zs = (List.replicate vs.length false).map V.bl := by
      rw [List.map_replicate]
      exact List.eq_replicate_iff.mpr ⟨hl, fun y hy => by
        obtain ⟨j, hj⟩ := List.getElem?_of_mem hy
        exact hz j y hj⟩
    subst ez
    have e1 := Ex.put (o := .lst ((List.replicate vs.length false).map V.bl)) nzl
    have gz : upd H zl (.lst ((List.replicate vs.length false).map V.bl)) zl = some (.lst ((List.replicate vs.length false).map V.bl)) := upd_same
    have t1 := t.ex e1
    have st1 := Dp.ex e1 st
    generalize upd H zl (.lst ((List.replicate vs.length false).map V.bl)) = H1 at t1 st1 gz ⊢
    unfold aNil
    dsimp only
    refine ⟨zl, _, rfl, .of gz, ?_⟩
    have ea : (List.replicate vs.length false).any id = false := by
      rw [List.any_eq_false]
      intro b hb
      rw [(List.mem_replicate.mp hb).2]
      simp
    rw [ea]
    refine ⟨(fun z => nomatch z), fun _ => ?_⟩
    walk_at "vc"
    refine copies_ok T t1.a.at_ t1.ok (by have := t1.hb; omega) (by have := t1.hm; omega) (by have := t1.hc; omega) fun H2 e2 => ?_
    refine ⟨(fun z => nomatch z), fun _ => ?_⟩
    have t2 := t1.ex e2
    walk_at "vc"
    refine state_ok T t2.a.at_ t2.ok fun ta H3 e3 na sa => ?_
    refine ⟨stD q, stD q, sa, Dp.ex (e2.trans e3) st1, sh, sh, ?_⟩
    rw [data_same sh]
    have t3 := t2.ex e3
    refine ⟨(fun z => nomatch z), fun _ => zNil_i ?_⟩
    show k3__law_right T D W [some (.ref p), z1, some (.ref x), z3, some (.ref x2), some (.ref s5), z6, some (.ref l)] H3
    unfold k3__law_right
    walk_at "vc"
    exact goes_ok T t3.a t3.b t3.ap t3.ok t3.hb (by have := t3.hc; omega) k
theorem k5_ok (T : All K mg) (t : Two T.Queue H0 H x kl cl x2 kl2 cl2 q) (st : Dp K H (.ref s5) (stD q)) (k : ∀ H', Ex H0 H' → D.rt (.bl true) H') :
    k5__law_right T D W [some (.ref p), z1, some (.ref x), z3, some (.ref x2), some (.ref s5), z6, z7] H := by
  unfold k5__law_right
  walk_at "vc"
  refine ⟨Nat.le_of_ble_eq_true rfl, fun l0 n0 => ?_⟩
  have y0 := Ex.put (o := .lst []) n0
  have g0 : upd H l0 (.lst []) l0 = some (.lst []) := upd_same
  generalize upd H l0 (.lst []) = H1 at y0 g0 ⊢
  refine ⟨Nat.le_of_ble_eq_true rfl, fun t0 n1 => ?_⟩
  have y1 := Ex.put (o := .tup []) n1
  have g0 := y1 _ _ g0
  have gt : upd H1 t0 (.tup []) t0 = some (.tup []) := upd_same
  have y01 := y0.trans y1
  generalize upd H1 t0 (.tup []) = H2 at y01 g0 gt ⊢
  walk_at "vc"
  intro d0 n2
  have y2 := Ex.put (o := .dK []) n2
  have g0 := y2 _ _ g0
  have gt := y2 _ _ gt
  have gd : upd H2 d0 (.dK []) d0 = some (.dK []) := upd_same
  have y02 := y01.trans y2
  have t2 := t.ex y02
  generalize upd H2 d0 (.dK []) = H3 at y02 g0 gt gd t2 ⊢
  obtain ⟨dx, i⟩ := t2.a.at_.ins
  refine ⟨x, dx, _, rfl, i, rfl, Queue_waiting_ok T t2.a.at_ fun w nw => ?_⟩
  have y3 := Ex.put (o := .lst (q.kept.map V.int)) nw
  have g0 := y3 _ _ g0
  have gt := y3 _ _ gt
  have gd := y3 _ _ gd
  have gw : upd H3 w (.lst (q.kept.map V.int)) w = some (.lst (q.kept.map V.int)) := upd_same
  have y03 := y02.trans y3
  have t3 := t2.ex y3
  show aCons _ _ _ (upd H3 w (.lst (q.kept.map V.int))) _ _
  generalize upd H3 w (.lst (q.kept.map V.int)) = H4 at y03 g0 gt gd gw t3 ⊢
  obtain ⟨dx3, i3⟩ := t3.a.at_.ins
  walk_at "vc"
  refine ⟨x, dx3, _, rfl, i3, Queue_repr_ok T t3.a.at_ t3.ok ?_⟩
  walk_at "vc"
  refine ⟨Nat.le_of_ble_eq_true rfl, fun e ne => ?_⟩
  unfold sp_NotRemembered___init__
  refine ⟨rfl, ?_⟩
  walk_at "vc"
  refine ⟨e, [.int 1], rfl, Nat.le_of_ble_eq_true rfl, upd_same, ?_⟩
  walk_at "vc"
  refine ⟨e, rfl, .inl ⟨upd_same, fun dd nd ned => ?_⟩⟩
  rw [upd_ne ned] at nd
  refine fg.i ⟨rfl, ?_⟩
  have y4 : Ex H4 (upd (upd (upd H4 e (exo e T.NotRemembered none)) dd (exd dd [("version", .int 1)])) e (exo e T.NotRemembered (some dd))) := fun b o h => by
    have n1 : b ≠ e := ne_of_none h ne
    have n2 : b ≠ dd := ne_of_none h nd
    rw [upd_ne n1, upd_ne n2, upd_ne n1]
    exact h
  have ge : upd (upd (upd H4 e (exo e T.NotRemembered none)) dd (exd dd [("version", .int 1)])) e (exo e T.NotRemembered (some dd)) e = some (exo e T.NotRemembered (some dd)) := upd_same
  have gdd : upd (upd (upd H4 e (exo e T.NotRemembered none)) dd (exd dd [("version", .int 1)])) e (exo e T.NotRemembered (some dd)) dd = some (exd dd [("version", .int 1)]) := by
    rw [upd_ne ned]
    exact upd_same
  generalize upd (upd (upd H4 e (exo e T.NotRemembered none)) dd (exd dd [("version", .int 1)])) e (exo e T.NotRemembered (some dd)) = H5 at y4 ge gdd ⊢
  have g0 := y4 _ _ g0
  have gt := y4 _ _ gt
  have gd := y4 _ _ gd
  have gw := y4 _ _ gw
  have y04 := y03.trans y4
  have t4 := t3.ex y4
  walk_at "vc"
  refine ⟨Nat.le_of_ble_eq_true rfl, fun l nl => ?_⟩
  have y5 := Ex.put (o := .lst [.non, .int 0, .str "", .ref l0, .ref t0, .ref d0, .ref w, .str q.text, .ref e]) nl
  have g0 := y5 _ _ g0
  have gt := y5 _ _ gt
  have gd := y5 _ _ gd
  have gw := y5 _ _ gw
  have ge := y5 _ _ ge
  have gdd := y5 _ _ gdd
  have gl : upd H5 l (.lst [.non, .int 0, .str "", .ref l0, .ref t0, .ref d0, .ref w, .str q.text, .ref e]) l = some (.lst [.non, .int 0, .str "", .ref l0, .ref t0, .ref d0, .ref w, .str q.text, .ref e]) := upd_same
  have y05 := y04.trans y5
  have t5 := t4.ex y5
  show k4__law_right T D W [some (.ref p), z1, some (.ref x), z3, some (.ref x2), some (.ref s5), z6, some (.ref l)] (upd H5 l (.lst [.non, .int 0, .str "", .ref l0, .ref t0, .ref d0, .ref w, .str q.text, .ref e]))
  generalize upd H5 l (.lst [.non, .int 0, .str "", .ref l0, .ref t0, .ref d0, .ref w, .str q.text, .ref e]) = H6 at y05 t5 g0 gt gd gw ge gdd gl ⊢
  have ty : ∀ {v : V} {U : String} {H' : Hp}, Ty H' v U → PySem.W.subIn K (.type U) (.ref T.Queue) = some false → ∃ u, AnyT K H' v u ∧ PySem.W.kitOne K u (.ref T.Queue) = some false ∧ PySem.W.notFirst K T.Queue u = true := fun {v U H'} h s => ⟨_, .ty h, kit_tyref T.Queue_hd T.Queue_ty s, notFirst_of s⟩
  refine k4_ok T t5 (Dp.ex y05 st) gl (Nat.le_of_ble_eq_true rfl) (fun v hv H' xx => ?_) k
  simp only [List.mem_cons, List.not_mem_nil, or_false] at hv
  rcases hv with rfl | rfl | rfl | rfl | rfl | rfl | rfl | rfl | rfl
  · exact ty .non T.Queue_nt_NoneType
  · exact ty (.int _) T.Queue_nt_int
  · exact ty (.str _) T.Queue_nt_str
  · exact ty (.lst (xx _ _ g0)) T.Queue_nt_list
  · exact ty (.tup (xx _ _ gt)) T.Queue_nt_tuple
  · exact ty (.dct (xx _ _ gd)) T.Queue_nt_dict
  · exact ty (.lst (xx _ _ gw)) T.Queue_nt_list
  · exact ty (.str _) T.Queue_nt_str
  · exact ⟨_, .err (xx _ _ ge) T.NotRemembered_x (.inr ⟨dd, _, rfl, xx _ _ gdd⟩), kit_ref T.Queue_hd T.Queue_ty T.Queue_ne_NotRemembered T.Queue_dq_NotRemembered, notFirst_of T.Queue_ne_NotRemembered⟩
theorem kr6_ok (T : All K mg) (t : Two T.Queue H0 H x kl cl x2 kl2 cl2 q) (st : Dp K H (.ref s5) (stD q)) (k : ∀ H', Ex H0 H' → D.rt (.bl true) H') :
    k6__law_right T D W [some (.ref p), z1, some (.ref x), z3, some (.ref x2), some (.ref s5), z6, z7] H := by
  unfold k6__law_right
  walk_at "vc"
  refine others_ok T t.a.at_ t.ok (by have := t.hb; omega) (by have := t.hm; omega) (by have := t.hc; omega) fun l ys H1 e1 g1 hl ho => ?_
  have t1 := t.ex e1
  refine ⟨l, _, rfl, .of g1, ?_⟩
  refine lc_map0 (fun _ => .bl true) (by omega) (.of g1) (fun y d acc R hy nd kk => ?_) fun l2 nl2 => ?_
  · have e := Ex.put (o := .lst acc) nd
    obtain ⟨ka, ca, r, B, nq⟩ := ((ho y hy).ex' e).ex
    have A := t1.a.at_.ex e
    obtain ⟨dx, i⟩ := A.ins
    obtain ⟨dy, j⟩ := B.ins
    walk_at "vc"
    refine ⟨x, dx, _, y, dy, _, rfl, rfl, i, j, Queue_eq_ok T A B ⟨_, rfl, ?_⟩⟩
    rw [nq]
    refine ⟨fun _ => ?_, fun z => nomatch z⟩
    walk_at "vc"
    refine ⟨x, dx, _, y, dy, _, rfl, rfl, i, j, Queue_eq_ok T A B ⟨_, rfl, ?_⟩⟩
    rw [nq]
    exact kk _ (Ex.refl _)
  have e2 := Ex.put (o := .lst (ys.map fun _ => V.bl true)) nl2
  have g2 : upd H1 l2 (.lst (ys.map fun _ => V.bl true)) l2 = some (.lst ((ys.map fun _ => true).map V.bl)) := by
    rw [upd_same, List.map_map]
    rfl
  have t2 := t1.ex e2
  generalize upd H1 l2 (.lst (ys.map fun _ => V.bl true)) = H2 at e2 g2 t2 ⊢
  unfold aNil
  dsimp only
  refine ⟨l2, _, rfl, .of g2, ?_⟩
  have ea : (ys.map fun _ => true).all id = true := by simp
  rw [ea]
  refine ⟨(fun z => nomatch z), fun _ => zNil_i ?_⟩
  exact k5_ok T t2 (Dp.ex (e1.trans e2) st) k
end
section
variable {H0 H : Hp} {Q : VK} {E : XK} {x kl cl x2 kl2 cl2 p s5 : Addr} {q : Qst} {s : PS} {D : Ends} {W : WX} {z1 z3 z5 z6 z7 : Option V}
theorem dex {G1 G2 : Hp} (e : Ex G1 G2) : Ex (del G1 p) (del G2 p) := fun b o h => by
  have nb : b ≠ p := fun z => by
    rw [z, del_same] at h
    cases h
  rw [del_ne nb] at h ⊢
  exact e _ _ h
structure TP (C : Addr) (H0 H : Hp) (p : Addr) (s : PS) (x kl cl x2 kl2 cl2 : Addr) (q : Qst) : Prop where
  t : Two C H0 (del H p) x kl cl x2 kl2 cl2 q
  hp : H p = some (potL s)
  ps : PotX s
theorem TP.ex {C : Addr} {H' : Hp} (c : TP C H0 H p s x kl cl x2 kl2 cl2 q) (e : Ex H H') : TP C H0 H' p s x kl cl x2 kl2 cl2 q := ⟨c.t.ex (dex e), e _ _ c.hp, c.ps⟩
theorem TP.a {C : Addr} (c : TP C H0 H p s x kl cl x2 kl2 cl2 q) : QAt C H x kl cl q := c.t.a.at_.ex ex_del
theorem TP.b {C : Addr} (c : TP C H0 H p s x kl cl x2 kl2 cl2 q) : QAt C H x2 kl2 cl2 q := c.t.b.at_.ex ex_del
theorem kr7_ok (T : All K mg) (c : TP T.Queue H0 H p s x kl cl x2 kl2 cl2 q) (st : Dp K (del H p) (.ref s5) (stD q)) (k : ∀ H', Ex H0 H' → D.rt (.bl true) H') :
    k7__law_right T D W [some (.ref p), z1, some (.ref x), z3, some (.ref x2), some (.ref s5), z6, z7] H := by
  have sh := stD_shaped q
  have ok := c.t.ok
  have kl9 := ok.klen
  have c9 := ok.c9
  obtain ⟨dx, i⟩ := c.a.ins
  unfold k7__law_right
  walk_at "vc"
  refine ⟨x, dx, _, rfl, i, Queue_len_ok T c.a ⟨⟨by omega, by omega⟩, ?_⟩⟩
  walk_at "vc"
  refine ⟨x, dx, _, rfl, i, rfl, Queue_waiting_ok T c.a fun w nw => ?_⟩
  have e1 := Ex.put (o := .lst (q.kept.map V.int)) nw
  have c1 := c.ex e1
  unfold aNil
  dsimp only
  refine ⟨w, _, rfl, .of upd_same, ?_⟩
  rw [List.length_map]
  have st := Dp.ex (dex (p := p) e1) st
  generalize upd H w (.lst (q.kept.map V.int)) = H1 at e1 c1 st ⊢
  walk_at "vc"
  refine ⟨(fun z => absurd z (by simp)), fun _ => ?_⟩
  walk_at "vc"
  refine refused_ok T c1.hp c1.ps del_same ex_del c1.t.a.at_ (by have := ok.b0; have := ok.f0; omega) fun H2 e2 => ?_
  refine ⟨(fun z => nomatch z), fun _ => ?_⟩
  have t2 := c1.t.ex e2
  walk_at "vc"
  refine state_ok T t2.a.at_ ok fun ta H3 e3 na sa => ?_
  refine ⟨stD q, stD q, sa, Dp.ex (e2.trans e3) st, sh, sh, ?_⟩
  rw [data_same sh]
  refine ⟨(fun z => nomatch z), fun _ => zNil_i ?_⟩
  exact kr6_ok T (t2.ex e3) (Dp.ex (e2.trans e3) st) k
theorem kr8_ok (T : All K mg) (c : TP T.Queue H0 H p s x kl cl x2 kl2 cl2 q) (st : Dp K (del H p) (.ref s5) (stD q)) (k : ∀ H', Ex H0 H' → D.rt (.bl true) H') :
    k8__law_right T D W [some (.ref p), z1, some (.ref x), z3, some (.ref x2), some (.ref s5), z6, z7] H := by
  have sh := stD_shaped q
  have ok := c.t.ok
  obtain ⟨dx, i⟩ := c.a.ins
  obtain ⟨dy, j⟩ := c.b.ins
  unfold k8__law_right
  walk_at "vc"
  refine ⟨x, dx, _, x2, dy, _, rfl, rfl, i, j, Queue_eq_ok T c.a c.b ⟨_, rfl, ?_⟩⟩
  rw [eqv_me]
  refine ⟨(fun z => nomatch z), fun _ => ?_⟩
  walk_at "vc"
  refine ⟨x, dx, _, x2, dy, _, rfl, rfl, i, j, Queue_eq_ok T c.a c.b ⟨_, rfl, ?_⟩⟩
  rw [eqv_me]
  refine ⟨(fun z => nomatch z), fun _ => ?_⟩
  walk_at "vc"
  refine state_ok T c.b ok fun ta H1 e1 na sa => ?_
  refine ⟨stD q, stD q, Dp.ex (ex_del.trans e1) st, sa, sh, sh, ?_⟩
  rw [data_same sh]
  refine ⟨(fun z => nomatch z), fun _ => ?_⟩
  have c1 := c.ex e1
  obtain ⟨d1, i1⟩ := c1.a.ins
  walk_at "vc"
  refine ⟨x, d1, _, rfl, i1, Queue_repr_ok T c1.a ok ?_⟩
  walk_at "vc"
  refine written_ok T c1.a ok fun H2 e2 => ?_
  walk_at "vc"
  refine ⟨(fun z => absurd z (by simp)), fun _ => zNil_i ?_⟩
  exact kr7_ok T (c1.ex e2) (Dp.ex (dex (e1.trans e2)) st) k
theorem kr9_ok (T : All K mg) (c : TP T.Queue H0 H p s x kl cl x2 kl2 cl2 q) (k : ∀ H', Ex H0 H' → D.rt (.bl true) H') :
    k9__law_right T D W [some (.ref p), z1, some (.ref x), z3, some (.ref x2), z5, z6, z7] H := by
  unfold k9__law_right
  walk_at "vc"
  refine state_x T c.hp c.a c.t.ok fun ta H1 e1 na sa => ?_
  exact kr8_ok T (c.ex e1) sa k
theorem queueF_ps {s : PS} (h : PotX s) : PotX (queueF s).2.2 := (((h.dig (by decide)).dig (by decide)).dig (by decide)).dig (by decide)
theorem right_ok (T : All K mg) (hp : H p = some (potL s)) (ps : PotX s) (k : ∀ H', Ex (del H p) H' → Q (.bl true) H') : sp__law_right T [.ref p] H Q E := by
  have hp0 : H p = some (.lst [.int s.1, .int s.2]) := hp
  unfold sp__law_right
  refine ⟨rfl, ?_⟩
  walk_at "vc"
  refine ⟨p, _, _, _, rfl, rfl, .of hp0, rfl, ?_⟩
  walk_at "vc"
  refine ⟨p, _, _, _, rfl, rfl, .of hp0, rfl, ?_⟩
  refine ⟨Nat.le_of_ble_eq_true rfl, fun kp nk => ?_⟩
  have e1 := Ex.put (o := potL s) nk
  have npk : p ≠ kp := ne_of_none hp nk
  have hk : upd H kp (potL s) kp = some (potL s) := upd_same
  have hp1 := e1 _ _ hp
  show k13__law_right T _ _ [some (.ref p), some (.ref kp), none, none, none, none, none, none] (upd H kp (potL s))
  generalize upd H kp (potL s) = H1 at e1 hk hp1 ⊢
  have eb : Ex (del H p) (del H1 p) := dex e1
  have gk : del H1 p kp = some (potL s) := by rw [del_ne npk.symm]; exact hk
  unfold k13__law_right
  walk_at "vc"
  refine queue_x T hp1 ps del_same ex_del fun x kl cl H2 f2 nx nkl ncl c2 => ?_
  have gkl : del H1 p kl = none := by
    by_cases z : kl = p
    · rw [z]; exact del_same
    · rw [del_ne z]; exact nkl
  generalize hG : del H1 p = G at eb gk c2 gkl
  have ps2 : PotX (queueF s).2.2 := queueF_ps ps
  unfold k12__law_right
  walk_at "vc"
  refine digit_x T c2.hp c2.ps (by walk_at "G:dig") ?_
  have hd := dgV_b (s := (queueF s).2.2) (m := 12) (by decide)
  have c3 := c2.dig (m := 12) (by decide)
  generalize upd H2 p (potL (dgS (queueF s).2.2 12)) = H3 at c3 ⊢
  unfold aNil
  dsimp only
  refine ⟨by omega, ?_⟩
  have hn : (dgV (queueF s).2.2 12).toNat ≤ 12 := by omega
  generalize hN : (dgV (queueF s).2.2 12).toNat = N at hn ⊢
  have run : ∀ {G H3 : Hp} {p x kl cl : Addr}, KP T.Queue G H3 p x kl cl (dgS (queueF s).2.2 12) (Qst.new (queueF s).1 (queueF s).2.1) 2000000000000000000000000000000 0 → G kl = none → ∃ r : Qst × PS, r = runF (Qst.new (queueF s).1 (queueF s).2.1, dgS (queueF s).2.2 12) 0 ∧ KP T.Queue G H3 p x kl cl r.2 r.1 (2000000000000000000000000000000 + 1000000000000000000000 * ((0 : Nat) : Int)) 0 := fun {G H3 p x kl cl} c _ => ⟨_, rfl, by
    show KP T.Queue G H3 p x kl cl (dgS (queueF s).2.2 12) (Qst.new (queueF s).1 (queueF s).2.1) (2000000000000000000000000000000 + 1000000000000000000000 * 0) 0
    exact c⟩
  refine forB (fun i σ' H' => ∃ (kl : Addr) (z3 : Option V), σ' = [some (.ref p), some (.ref kp), some (.ref x), z3, none, none, none, none] ∧ G kl = none ∧ KP T.Queue G H' p x kl cl (runF (Qst.new (queueF s).1 (queueF s).2.1, dgS (queueF s).2.2 12) i).2 (runF (Qst.new (queueF s).1 (queueF s).2.1, dgS (queueF s).2.2 12) i).1 (2000000000000000000000000000000 + 1000000000000000000000 * (i : Int)) i)
    ⟨kl, _, rfl, gkl, (by
      obtain ⟨r, er, c⟩ := run c3 gkl
      subst er
      exact c)⟩ (fun _ _ _ _ _ => trivial) (fun i σ' H' hi P => ?_) fun σ' H' P => ?_
  · obtain ⟨kl, z3, rfl, gkl, c⟩ := P
    have hi : i < N := hi
    unfold k1__law_right
    walk_at "vc"
    refine call_x T c (by omega) (by omega) fun t kl2 H'' f n2 c2 => ?_
    refine fg.i ⟨kl2, _, rfl, c.l.a.xx.free n2, ?_⟩
    show KP T.Queue G H'' p x kl2 cl (callF (runF (Qst.new (queueF s).1 (queueF s).2.1, dgS (queueF s).2.2 12) i).1 (runF (Qst.new (queueF s).1 (queueF s).2.1, dgS (queueF s).2.2 12) i).2).2 (callF (runF (Qst.new (queueF s).1 (queueF s).2.1, dgS (queueF s).2.2 12) i).1 (runF (Qst.new (queueF s).1 (queueF s).2.1, dgS (queueF s).2.2 12) i).2).1 (2000000000000000000000000000000 + 1000000000000000000000 * ((i + 1 : Nat) : Int)) (i + 1)
    have e : (2000000000000000000000000000000 + 1000000000000000000000 * ((i + 1 : Nat) : Int)) = 2000000000000000000000000000000 + 1000000000000000000000 * (i : Int) + 1000000000000000000000 := by omega
    rw [e]
    exact c2
  · obtain ⟨kl, z3, rfl, gkl, c⟩ := P
    clear run c2 c3 f2 nx nkl ncl hp1 hk
    have hk2 := c.l.a.xx _ _ gk
    have nkk : kp ≠ kl := ne_of_none gk gkl
    have nkc : kp ≠ cl := ne_of_none gk c.l.a.c1
    have A2 := c.l.a.at_.cut hk2 nkk nkc
    have hp2 : del H' kp p = some (potL (runF (Qst.new (queueF s).1 (queueF s).2.1, dgS (queueF s).2.2 12) N).2) := by
      rw [del_ne npk]
      exact c.hp
    have sx : del H' kp x ≠ none := by
      obtain ⟨dx, i⟩ := A2.ins
      rw [i]
      simp
    show k11__law_right T _ _ [some (.ref p), some (.ref kp), some (.ref x), z3, none, none, none, none] H'
    unfold k11__law_right
    walk_at "vc"
    refine queue_x T hk2 ps del_same ex_del fun x2 kl2 cl2 H4 f4 nx2 nkl2 ncl2 c4 => ?_
    have gkl2 : del H' kp kl2 = none := by
      by_cases z : kl2 = kp
      · rw [z]; exact del_same
      · rw [del_ne z]; exact nkl2
    generalize hG2 : del H' kp = G2 at A2 hp2 c4 gkl2 sx
    unfold k10__law_right
    walk_at "vc"
    refine digit_x T c4.hp c4.ps (by walk_at "G:dig") ?_
    have c5 := c4.dig (m := 12) (by decide)
    generalize upd H4 kp (potL (dgS (queueF s).2.2 12)) = H5 at c5 ⊢
    unfold aNil
    dsimp only
    refine ⟨by omega, ?_⟩
    rw [hN]
    refine forB (fun i σ' H' => ∃ (kl2 : Addr) (z3 : Option V), σ' = [some (.ref p), some (.ref kp), some (.ref x), z3, some (.ref x2), none, none, none] ∧ G2 kl2 = none ∧ KP T.Queue G2 H' kp x2 kl2 cl2 (runF (Qst.new (queueF s).1 (queueF s).2.1, dgS (queueF s).2.2 12) i).2 (runF (Qst.new (queueF s).1 (queueF s).2.1, dgS (queueF s).2.2 12) i).1 (2000000000000000000000000000000 + 1000000000000000000000 * (i : Int)) i)
      ⟨kl2, _, rfl, gkl2, (by
        show KP T.Queue G2 H5 kp x2 kl2 cl2 (dgS (queueF s).2.2 12) (Qst.new (queueF s).1 (queueF s).2.1) (2000000000000000000000000000000 + 1000000000000000000000 * 0) 0
        exact c5)⟩ (fun _ _ _ _ _ => trivial) (fun i σ' H' hi P => ?_) fun σ' H' P => ?_
    · obtain ⟨kl2, z3, rfl, gkl2, c⟩ := P
      have hi : i < N := hi
      unfold k2__law_right
      walk_at "vc"
      refine call_x T c (by omega) (by omega) fun t kl3 H'' f n3 c3 => ?_
      refine fg.i ⟨kl3, _, rfl, c.l.a.xx.free n3, ?_⟩
      show KP T.Queue G2 H'' kp x2 kl3 cl2 (callF (runF (Qst.new (queueF s).1 (queueF s).2.1, dgS (queueF s).2.2 12) i).1 (runF (Qst.new (queueF s).1 (queueF s).2.1, dgS (queueF s).2.2 12) i).2).2 (callF (runF (Qst.new (queueF s).1 (queueF s).2.1, dgS (queueF s).2.2 12) i).1 (runF (Qst.new (queueF s).1 (queueF s).2.1, dgS (queueF s).2.2 12) i).2).1 (2000000000000000000000000000000 + 1000000000000000000000 * ((i + 1 : Nat) : Int)) (i + 1)
      have e : (2000000000000000000000000000000 + 1000000000000000000000 * ((i + 1 : Nat) : Int)) = 2000000000000000000000000000000 + 1000000000000000000000 * (i : Int) + 1000000000000000000000 := by omega
      rw [e]
      exact c3
    · obtain ⟨kl2, z3, rfl, gkl2, d⟩ := P
      clear c4 c5
      generalize runF (Qst.new (queueF s).1 (queueF s).2.1, dgS (queueF s).2.2 12) N = r at c d hp2 A2
      have A6 := A2.ex d.l.a.xx
      have hp6 := d.l.a.xx _ _ hp2
      have B6 := d.l.a.at_
      have n1 : p ≠ kl2 := ne_of_none hp2 gkl2
      have n2 : p ≠ cl2 := ne_of_none hp2 d.l.a.c1
      have x02 : Ex (del H p) G2 := fun b o e => by
        have nk0 : del H p kp = none := by
          rw [del_ne npk.symm]
          exact nk
        rw [← hG2, del_ne (ne_of_none e nk0)]
        exact c.l.a.xx _ _ (eb _ _ e)
      have x06 : Ex (del H p) (del H' p) := fun b o e => by
        rw [del_ne (ne_of_none e del_same)]
        exact d.l.a.xx _ _ (x02 _ _ e)
      obtain ⟨dx, ix⟩ := A2.ins
      obtain ⟨oc, sc⟩ := A2.cl_some
      have b1 := c.l.b1
      have b2 := c.l.b2
      have b3 := c.l.calls
      have tp : TP T.Queue (del H p) H' p r.2 x kl cl x2 kl2 cl2 r.1 := ⟨⟨⟨A6.cut hp6 c.npk c.npc, x06, eb.free c.l.a.n1, eb.free c.l.a.c1, c.l.a.e1⟩, ⟨B6.cut hp6 n1 n2, x06, x02.free d.l.a.n1, x02.free d.l.a.c1, d.l.a.e1⟩,
        ⟨ne_of_none ix d.l.a.n1, ne_of_none A2.kept d.l.a.c1, (ne_of_none sc gkl2).symm, ne_of_none sc d.l.a.c1⟩, c.l.ok, by omega, by omega, by omega⟩, hp6, c.ps⟩
      show k9__law_right T _ _ [some (.ref p), some (.ref kp), some (.ref x), z3, some (.ref x2), none, none, none] H'
      exact kr9_ok T tp fun H'' e => fg.i (k H'' e)
theorem pot_x (T : All K mg) {a : Addr} {ns : List Int} {i : Int} (hs : SqL K H a (ns.map V.int)) (h0 : 0 ≤ i) (h1 : i ≤ 100) (k : ∀ p s H', Ex H H' → H p = none → H' p = some (potL s) → PotX s → Q (.ref p) H') : sp__law_pot T [.ref a, .int i] H Q E := by
  have e18 : (10 : Int) ^ (18 : Int).toNat = 1000000000000000000 := by decide +kernel
  unfold sp__law_pot
  refine ⟨rfl, ?_⟩
  have main : ∀ (c : Int) {z : Option V}, zRet (rLst (aCons (rB cMax (aCons (rC (.int 0)) (aCons (rBin oSub (rB cAbs (aCons (rVar 2) aNil)) (rBin oPow (rC (.int 10)) (rC (.int 18)))) aNil))) (aCons (rBin oAdd (rBin oMod (rBin oPow (rBin oAdd (rBin oAdd (rBin oMod (rB cAbs (aCons (rVar 2) aNil)) (rC (.int 2147483477))) (rBin oMul (rC (.int 101)) (rVar 1))) (rC (.int 3))) (rC (.int 2))) (rC (.int 2147483399))) (rC (.int 1))) aNil))) { nx := fun _ H' => fg (Q .non) H', rt := fun v H' => fg (Q v) H' } (fun c d _ H' => E c d H') [some (.ref a), some (.int i), some (.int c)] H := fun c {z} => by
    have hm := Int.emod_nonneg (if c < 0 then -c else c) (show (2147483477 : Int) ≠ 0 by decide)
    have hm2 := Int.emod_lt_of_pos (if c < 0 then -c else c) (show (0 : Int) < 2147483477 by decide)
    walk_at "vc"
    refine ⟨by walk_at "G:pow", ?_⟩
    rw [e18]
    walk_at "vc"
    refine ⟨by walk_at "G:mod", ?_⟩
    walk_at "vc"
    refine ⟨mulW (by unfold Wide; omega) (by unfold Wide; omega), ?_⟩
    walk_at "vc"
    refine ⟨by walk_at "G:pow", ?_⟩
    walk_at "vc"
    refine ⟨by walk_at "G:mod", ?_⟩
    walk_at "vc"
    refine ⟨Nat.le_of_ble_eq_true rfl, fun p np => ?_⟩
    have em0 := Int.emod_nonneg (((if c < 0 then -c else c) % 2147483477 + 101 * i + 3) ^ (2 : Int).toNat) (show (2147483399 : Int) ≠ 0 by decide)
    have em1 := Int.emod_lt_of_pos (((if c < 0 then -c else c) % 2147483477 + 101 * i + 3) ^ (2 : Int).toNat) (show (0 : Int) < 2147483399 by decide)
    exact fg.i (k p (_, _) _ (Ex.put np) np upd_same ⟨by show (0 : Int) ≤ if (if c < 0 then -c else c) - 1000000000000000000 > 0 then (if c < 0 then -c else c) - 1000000000000000000 else 0; generalize (if c < 0 then -c else c) = m; split <;> omega, by show (0 : Int) ≤ _ + 1; omega, by show _ + 1 ≤ (2147483587 : Int); omega⟩)
  walk_at "vc"
  refine ⟨a, _, rfl, hs, ?_⟩
  rw [List.length_map]
  refine ⟨fun z => ?_, fun z => ?_⟩
  · have z := of_decide_eq_true z
    walk_at "vc"
    obtain ⟨j, rfl⟩ := Int.eq_ofNat_of_zero_le h0
    have hj : j < ns.length := by omega
    refine ⟨a, _, _, .int ns[j], rfl, rfl, hs, atI_nat (by rw [List.getElem?_map, List.getElem?_eq_getElem hj]; rfl), ?_⟩
    exact main ns[j] (z := none)
  · walk_at "vc"
    exact main 0 (z := none)
theorem law_ok (T : All K mg) {a : Addr} {ns : List Int} {H : Hp} {Q : VK} {E : XK} (hs : SqL K H a (ns.map V.int)) (hl : ns.length ≤ 63) (q : ∀ H', Q (.bl true) H') : sp_law T [.ref a] H Q E := by
  unfold sp_law
  refine ⟨rfl, ?_⟩
  walk_at "vc"
  refine ⟨Nat.le_of_ble_eq_true rfl, fun t1 n1 => ?_⟩
  have e1 := Ex.put (o := .lst [.int 2, .int 9]) n1
  have g1 : upd H t1 (.lst [.int 2, .int 9]) t1 = some (.lst [.int 2, .int 9]) := upd_same
  generalize upd H t1 (.lst [.int 2, .int 9]) = H1 at e1 g1 ⊢
  refine ⟨Nat.le_of_ble_eq_true rfl, fun t2 n2 => ?_⟩
  have e2 := Ex.put (o := .lst [.int 2, .int 9]) n2
  have sh2 : Lay 1 (.list [.int 2, .int 9]) := Lay.lst fun d hd => by
    simp only [List.mem_cons, List.not_mem_nil, or_false] at hd
    rcases hd with rfl | rfl <;> exact .int
  refine ⟨.list [.int 2, .int 9], .list [.int 2, .int 9], .lst (.of (e2 _ _ g1)) (.cons (.int _) (.cons (.int _) .nil)), .lst (.of upd_same) (.cons (.int _) (.cons (.int _) .nil)), sh2.shaped (by decide), sh2.shaped (by decide), ?_⟩
  rw [data_same (sh2.shaped (by decide))]
  have hs := (e1.trans e2).sqL hs
  generalize upd H1 t2 (.lst [.int 2, .int 9]) = H2 at hs ⊢
  refine ⟨(fun z => nomatch z), fun _ => zNil_i ?_⟩
  show k1_law T _ _ [some (.ref a), none] H2
  unfold k1_law
  walk_at "vc"
  refine ⟨a, _, rfl, hs, ?_⟩
  walk_at "vc"
  have tl : ((ns.map V.int).length : Int) ≤ 63 := by rw [List.length_map]; omega
  generalize ((ns.map V.int).length : Int) = nl at tl
  have tb : (if (if (4 : Int) < nl then 4 else nl) > 1 then (if (4 : Int) < nl then 4 else nl) else 1) ≤ 4 ∧ 1 ≤ (if (if (4 : Int) < nl then 4 else nl) > 1 then (if (4 : Int) < nl then 4 else nl) else 1) := by
    split <;> split <;> omega
  generalize (if (if (4 : Int) < nl then 4 else nl) > 1 then (if (4 : Int) < nl then 4 else nl) else 1) = n at tb
  refine ⟨by omega, ?_⟩
  refine lc_rng (fun _ v => v = .bl true) (by omega) (fun i d acc R hi nd k => ?_) (fun ys l hl hy nl => ?_)
  · walk_at "vc"
    refine pot_x T ((Ex.put nd).sqL hs) (by omega) (by omega) fun p s H' e np hp ps => ?_
    refine right_ok T hp ps fun H'' e2 => k _ _ (fun b o h => e2 _ _ ?_) rfl
    have h2 := e _ _ h
    have nb : b ≠ p := ne_of_none h np
    rw [del_ne nb]
    exact h2
  · rw [all_bl hy]
    walk_at "vc"
    refine ⟨l, List.replicate ys.length true, rfl, .of (by rw [upd_same, List.map_replicate]), ?_⟩
    rw [show (List.replicate ys.length true).all id = true by simp]
    exact fg.i (q _)
end
end

theorem fin {l : PySem.W.OpenLaw} {w : World} {K : PySem.W.Frag} {h : Heap} {mg : Str → Option Value} {fa f0 f1 f2 f3 f4 f5 f6 f7 f8 f9 f10 f11 f12 f13 f14 f15 f16 f17 f18 f19 f20 f21 f22 f23 f24 f25 f26 f27 C_Queue C_Arrivals fm0 fm1 fm2 fm3 fm4 Dm4 fm5 fm6 fm7 fm8 fm9 fm10 fm11 fm12 fm13 fm14 fm15 fm16 fm17 fm18 fm19 fm20 fm21 fm22 fm23 fm24 fm25 fm26 C_InvalidVersion C_InvalidNumber C_InvalidCapacity C_OutOfOrder C_NotRemembered C_SamplingError : Addr} {od0 an0 od1 an1 od2 an2 od3 an3 od4 an4 od5 an5 od6 an6 od7 an7 od8 an8 od9 an9 od10 an10 od11 an11 od12 an12 od13 an13 od14 an14 od15 an15 od16 an16 od17 an17 od18 an18 od19 an19 od20 an20 od21 an21 od22 an22 od23 an23 od24 an24 od25 an25 od26 an26 od27 an27 odm0 anm0 odm1 anm1 odm2 anm2 odm3 anm3 odm4 anm4 odm5 anm5 odm6 anm6 odm7 anm7 odm8 anm8 odm9 anm9 odm10 anm10 odm11 anm11 odm12 anm12 odm13 anm13 odm14 anm14 odm15 anm15 odm16 anm16 odm17 anm17 odm18 anm18 odm19 anm19 odm20 anm20 odm21 anm21 odm22 anm22 odm23 anm23 odm24 anm24 odm25 anm25 odm26 anm26 : Option Addr} {sl0 sl1 sl2 sl3 sl4 sl5 sl6 sl7 sl8 sl9 sl10 sl11 sl12 sl13 sl14 sl15 sl16 sl17 sl18 sl19 sl20 sl21 sl22 sl23 sl24 sl25 sl26 sl27 slm0 slm1 slm2 slm3 slm4 slm5 slm6 slm7 slm8 slm9 slm10 slm11 slm12 slm13 slm14 slm15 slm16 slm17 slm18 slm19 slm20 slm21 slm22 slm23 slm24 slm25 slm26 : Array (Option Value)} {oc0 kV0 dc0 pm0 cd0 ct0 oc1 kV1 dc1 pm1 cd1 ct1 oc2 kV2 dc2 pm2 cd2 ct2 oc3 kV3 dc3 pm3 cd3 ct3 oc4 kV4 dc4 pm4 cd4 ct4 oc5 kV5 dc5 pm5 cd5 ct5 oc6 kV6 dc6 pm6 cd6 ct6 oc7 kV7 dc7 pm7 cd7 ct7 oc8 kV8 dc8 pm8 cd8 ct8 oc9 kV9 dc9 pm9 cd9 ct9 oc10 kV10 dc10 pm10 cd10 ct10 oc11 kV11 dc11 pm11 cd11 ct11 oc12 kV12 dc12 pm12 cd12 ct12 oc13 kV13 dc13 pm13 cd13 ct13 oc14 kV14 dc14 pm14 cd14 ct14 oc15 kV15 dc15 pm15 cd15 ct15 oc16 kV16 dc16 pm16 cd16 ct16 oc17 kV17 dc17 pm17 cd17 ct17 oc18 kV18 dc18 pm18 cd18 ct18 oc19 kV19 dc19 pm19 cd19 ct19 oc20 kV20 dc20 pm20 cd20 ct20 oc21 kV21 dc21 pm21 cd21 ct21 oc22 kV22 dc22 pm22 cd22 ct22 oc23 kV23 dc23 pm23 cd23 ct23 oc24 kV24 dc24 pm24 cd24 ct24 oc25 kV25 dc25 pm25 cd25 ct25 oc26 kV26 dc26 pm26 cd26 ct26 oc27 kV27 dc27 pm27 cd27 ct27 ocm0 kVm0 dcm0 pmm0 cdm0 ctm0 ocm1 kVm1 dcm1 pmm1 cdm1 ctm1 ocm2 kVm2 dcm2 pmm2 cdm2 ctm2 ocm3 kVm3 dcm3 pmm3 cdm3 ctm3 ocm4 dcm4 pmm4 cdm4 ctm4 ocm5 kVm5 dcm5 pmm5 cdm5 ctm5 ocm6 kVm6 dcm6 pmm6 cdm6 ctm6 ocm7 kVm7 dcm7 pmm7 cdm7 ctm7 ocm8 kVm8 dcm8 pmm8 cdm8 ctm8 ocm9 kVm9 dcm9 pmm9 cdm9 ctm9 ocm10 kVm10 dcm10 pmm10 cdm10 ctm10 ocm11 kVm11 dcm11 pmm11 cdm11 ctm11 ocm12 kVm12 dcm12 pmm12 cdm12 ctm12 ocm13 kVm13 dcm13 pmm13 cdm13 ctm13 ocm14 kVm14 dcm14 pmm14 cdm14 ctm14 ocm15 kVm15 dcm15 pmm15 cdm15 ctm15 ocm16 kVm16 dcm16 pmm16 cdm16 ctm16 ocm17 kVm17 dcm17 pmm17 cdm17 ctm17 ocm18 kVm18 dcm18 pmm18 cdm18 ctm18 ocm19 kVm19 dcm19 pmm19 cdm19 ctm19 ocm20 kVm20 dcm20 pmm20 cdm20 ctm20 ocm21 kVm21 dcm21 pmm21 cdm21 ctm21 ocm22 kVm22 dcm22 pmm22 cdm22 ctm22 ocm23 kVm23 dcm23 pmm23 cdm23 ctm23 ocm24 kVm24 dcm24 pmm24 cdm24 ctm24 ocm25 kVm25 dcm25 pmm25 cdm25 ctm25 ocm26 kVm26 dcm26 pmm26 cdm26 ctm26 : Value} {tkm4_0 t_LEAST_CAPACITY t_MOST_CAPACITY : Tok} (X : K.In h) (G : h.Ns mainGlobals mg) (hfa : mg "law" = some (.ref fa))
    (a0 : PySem.W.nsIn K mainGlobals "is_int" = some (some (.ref f0)))
    (l0 : K.lookup f0 = some ⟨oc0, od0, .func (PySem.W.fnOf "is_int" "is_int" (defArgs s_is_int) (defBody s_is_int) (defScope s_is_int) .none kV0 dc0 pm0 an0 cd0 ct0), sl0⟩)
    (c0 : PySem.W.codeIn K cd0 "is_int" = true)
    (k0 : PySem.W.keepIn K (.ref f0) = true)
    (a1 : PySem.W.nsIn K mainGlobals "is_version" = some (some (.ref f1)))
    (l1 : K.lookup f1 = some ⟨oc1, od1, .func (PySem.W.fnOf "is_version" "is_version" (defArgs s_is_version) (defBody s_is_version) (defScope s_is_version) .none kV1 dc1 pm1 an1 cd1 ct1), sl1⟩)
    (c1 : PySem.W.codeIn K cd1 "is_version" = true)
    (k1 : PySem.W.keepIn K (.ref f1) = true)
    (a2 : PySem.W.nsIn K mainGlobals "want_version" = some (some (.ref f2)))
    (l2 : K.lookup f2 = some ⟨oc2, od2, .func (PySem.W.fnOf "want_version" "want_version" (defArgs s_want_version) (defBody s_want_version) (defScope s_want_version) .none kV2 dc2 pm2 an2 cd2 ct2), sl2⟩)
    (c2 : PySem.W.codeIn K cd2 "want_version" = true)
    (k2 : PySem.W.keepIn K (.ref f2) = true)
    (a3 : PySem.W.nsIn K mainGlobals "want_number" = some (some (.ref f3)))
    (l3 : K.lookup f3 = some ⟨oc3, od3, .func (PySem.W.fnOf "want_number" "want_number" (defArgs s_want_number) (defBody s_want_number) (defScope s_want_number) .none kV3 dc3 pm3 an3 cd3 ct3), sl3⟩)
    (c3 : PySem.W.codeIn K cd3 "want_number" = true)
    (k3 : PySem.W.keepIn K (.ref f3) = true)
    (a4 : PySem.W.nsIn K mainGlobals "lowest_bit" = some (some (.ref f4)))
    (l4 : K.lookup f4 = some ⟨oc4, od4, .func (PySem.W.fnOf "lowest_bit" "lowest_bit" (defArgs s_lowest_bit) (defBody s_lowest_bit) (defScope s_lowest_bit) .none kV4 dc4 pm4 an4 cd4 ct4), sl4⟩)
    (c4 : PySem.W.codeIn K cd4 "lowest_bit" = true)
    (k4 : PySem.W.keepIn K (.ref f4) = true)
    (a5 : PySem.W.nsIn K mainGlobals "precedes" = some (some (.ref f5)))
    (l5 : K.lookup f5 = some ⟨oc5, od5, .func (PySem.W.fnOf "precedes" "precedes" (defArgs s_precedes) (defBody s_precedes) (defScope s_precedes) .none kV5 dc5 pm5 an5 cd5 ct5), sl5⟩)
    (c5 : PySem.W.codeIn K cd5 "precedes" = true)
    (k5 : PySem.W.keepIn K (.ref f5) = true)
    (a6 : PySem.W.nsIn K mainGlobals "odd_multiples" = some (some (.ref f6)))
    (l6 : K.lookup f6 = some ⟨oc6, od6, .func (PySem.W.fnOf "odd_multiples" "odd_multiples" (defArgs s_odd_multiples) (defBody s_odd_multiples) (defScope s_odd_multiples) .none kV6 dc6 pm6 an6 cd6 ct6), sl6⟩)
    (c6 : PySem.W.codeIn K cd6 "odd_multiples" = true)
    (k6 : PySem.W.keepIn K (.ref f6) = true)
    (a7 : PySem.W.nsIn K mainGlobals "strongest" = some (some (.ref f7)))
    (l7 : K.lookup f7 = some ⟨oc7, od7, .func (PySem.W.fnOf "strongest" "strongest" (defArgs s_strongest) (defBody s_strongest) (defScope s_strongest) .none kV7 dc7 pm7 an7 cd7 ct7), sl7⟩)
    (c7 : PySem.W.codeIn K cd7 "strongest" = true)
    (k7 : PySem.W.keepIn K (.ref f7) = true)
    (a8 : PySem.W.nsIn K mainGlobals "want_capacity" = some (some (.ref f8)))
    (l8 : K.lookup f8 = some ⟨oc8, od8, .func (PySem.W.fnOf "want_capacity" "want_capacity" (defArgs s_want_capacity) (defBody s_want_capacity) (defScope s_want_capacity) .none kV8 dc8 pm8 an8 cd8 ct8), sl8⟩)
    (c8 : PySem.W.codeIn K cd8 "want_capacity" = true)
    (k8 : PySem.W.keepIn K (.ref f8) = true)
    (a9 : PySem.W.nsIn K mainGlobals "weakest" = some (some (.ref f9)))
    (l9 : K.lookup f9 = some ⟨oc9, od9, .func (PySem.W.fnOf "weakest" "weakest" (defArgs s_weakest) (defBody s_weakest) (defScope s_weakest) .none kV9 dc9 pm9 an9 cd9 ct9), sl9⟩)
    (c9 : PySem.W.codeIn K cd9 "weakest" = true)
    (k9 : PySem.W.keepIn K (.ref f9) = true)
    (a10 : PySem.W.nsIn K mainGlobals "after_range" = some (some (.ref f10)))
    (l10 : K.lookup f10 = some ⟨oc10, od10, .func (PySem.W.fnOf "after_range" "after_range" (defArgs s_after_range) (defBody s_after_range) (defScope s_after_range) .none kV10 dc10 pm10 an10 cd10 ct10), sl10⟩)
    (c10 : PySem.W.codeIn K cd10 "after_range" = true)
    (k10 : PySem.W.keepIn K (.ref f10) = true)
    (a11 : PySem.W.nsIn K mainGlobals "_law_pot" = some (some (.ref f11)))
    (l11 : K.lookup f11 = some ⟨oc11, od11, .func (PySem.W.fnOf "_law_pot" "_law_pot" (defArgs s__law_pot) (defBody s__law_pot) (defScope s__law_pot) .none kV11 dc11 pm11 an11 cd11 ct11), sl11⟩)
    (c11 : PySem.W.codeIn K cd11 "_law_pot" = true)
    (k11 : PySem.W.keepIn K (.ref f11) = true)
    (a12 : PySem.W.nsIn K mainGlobals "_law_digit" = some (some (.ref f12)))
    (l12 : K.lookup f12 = some ⟨oc12, od12, .func (PySem.W.fnOf "_law_digit" "_law_digit" (defArgs s__law_digit) (defBody s__law_digit) (defScope s__law_digit) .none kV12 dc12 pm12 an12 cd12 ct12), sl12⟩)
    (c12 : PySem.W.codeIn K cd12 "_law_digit" = true)
    (k12 : PySem.W.keepIn K (.ref f12) = true)
    (a13 : PySem.W.nsIn K mainGlobals "_law_pick" = some (some (.ref f13)))
    (l13 : K.lookup f13 = some ⟨oc13, od13, .func (PySem.W.fnOf "_law_pick" "_law_pick" (defArgs s__law_pick) (defBody s__law_pick) (defScope s__law_pick) .none kV13 dc13 pm13 an13 cd13 ct13), sl13⟩)
    (c13 : PySem.W.codeIn K cd13 "_law_pick" = true)
    (k13 : PySem.W.keepIn K (.ref f13) = true)
    (a14 : PySem.W.nsIn K mainGlobals "_law_queue" = some (some (.ref f14)))
    (l14 : K.lookup f14 = some ⟨oc14, od14, .func (PySem.W.fnOf "_law_queue" "_law_queue" (defArgs s__law_queue) (defBody s__law_queue) (defScope s__law_queue) .none kV14 dc14 pm14 an14 cd14 ct14), sl14⟩)
    (c14 : PySem.W.codeIn K cd14 "_law_queue" = true)
    (k14 : PySem.W.keepIn K (.ref f14) = true)
    (a15 : PySem.W.nsIn K mainGlobals "_law_next" = some (some (.ref f15)))
    (l15 : K.lookup f15 = some ⟨oc15, od15, .func (PySem.W.fnOf "_law_next" "_law_next" (defArgs s__law_next) (defBody s__law_next) (defScope s__law_next) .none kV15 dc15 pm15 an15 cd15 ct15), sl15⟩)
    (c15 : PySem.W.codeIn K cd15 "_law_next" = true)
    (k15 : PySem.W.keepIn K (.ref f15) = true)
    (a16 : PySem.W.nsIn K mainGlobals "_law_call" = some (some (.ref f16)))
    (l16 : K.lookup f16 = some ⟨oc16, od16, .func (PySem.W.fnOf "_law_call" "_law_call" (defArgs s__law_call) (defBody s__law_call) (defScope s__law_call) .none kV16 dc16 pm16 an16 cd16 ct16), sl16⟩)
    (c16 : PySem.W.codeIn K cd16 "_law_call" = true)
    (k16 : PySem.W.keepIn K (.ref f16) = true)
    (a17 : PySem.W.nsIn K mainGlobals "_law_called" = some (some (.ref f17)))
    (l17 : K.lookup f17 = some ⟨oc17, od17, .func (PySem.W.fnOf "_law_called" "_law_called" (defArgs s__law_called) (defBody s__law_called) (defScope s__law_called) .none kV17 dc17 pm17 an17 cd17 ct17), sl17⟩)
    (c17 : PySem.W.codeIn K cd17 "_law_called" = true)
    (k17 : PySem.W.keepIn K (.ref f17) = true)
    (a18 : PySem.W.nsIn K mainGlobals "_law_told" = some (some (.ref f18)))
    (l18 : K.lookup f18 = some ⟨oc18, od18, .func (PySem.W.fnOf "_law_told" "_law_told" (defArgs s__law_told) (defBody s__law_told) (defScope s__law_told) .none kV18 dc18 pm18 an18 cd18 ct18), sl18⟩)
    (c18 : PySem.W.codeIn K cd18 "_law_told" = true)
    (k18 : PySem.W.keepIn K (.ref f18) = true)
    (a19 : PySem.W.nsIn K mainGlobals "_law_bad" = some (some (.ref f19)))
    (l19 : K.lookup f19 = some ⟨oc19, od19, .func (PySem.W.fnOf "_law_bad" "_law_bad" (defArgs s__law_bad) (defBody s__law_bad) (defScope s__law_bad) .none kV19 dc19 pm19 an19 cd19 ct19), sl19⟩)
    (c19 : PySem.W.codeIn K cd19 "_law_bad" = true)
    (k19 : PySem.W.keepIn K (.ref f19) = true)
    (a20 : PySem.W.nsIn K mainGlobals "_law_refused_right" = some (some (.ref f20)))
    (l20 : K.lookup f20 = some ⟨oc20, od20, .func (PySem.W.fnOf "_law_refused_right" "_law_refused_right" (defArgs s__law_refused_right) (defBody s__law_refused_right) (defScope s__law_refused_right) .none kV20 dc20 pm20 an20 cd20 ct20), sl20⟩)
    (c20 : PySem.W.codeIn K cd20 "_law_refused_right" = true)
    (k20 : PySem.W.keepIn K (.ref f20) = true)
    (a21 : PySem.W.nsIn K mainGlobals "_law_state" = some (some (.ref f21)))
    (l21 : K.lookup f21 = some ⟨oc21, od21, .func (PySem.W.fnOf "_law_state" "_law_state" (defArgs s__law_state) (defBody s__law_state) (defScope s__law_state) .none kV21 dc21 pm21 an21 cd21 ct21), sl21⟩)
    (c21 : PySem.W.codeIn K cd21 "_law_state" = true)
    (k21 : PySem.W.keepIn K (.ref f21) = true)
    (a22 : PySem.W.nsIn K mainGlobals "_law_written" = some (some (.ref f22)))
    (l22 : K.lookup f22 = some ⟨oc22, od22, .func (PySem.W.fnOf "_law_written" "_law_written" (defArgs s__law_written) (defBody s__law_written) (defScope s__law_written) .none kV22 dc22 pm22 an22 cd22 ct22), sl22⟩)
    (c22 : PySem.W.codeIn K cd22 "_law_written" = true)
    (k22 : PySem.W.keepIn K (.ref f22) = true)
    (a23 : PySem.W.nsIn K mainGlobals "_law_others" = some (some (.ref f23)))
    (l23 : K.lookup f23 = some ⟨oc23, od23, .func (PySem.W.fnOf "_law_others" "_law_others" (defArgs s__law_others) (defBody s__law_others) (defScope s__law_others) .none kV23 dc23 pm23 an23 cd23 ct23), sl23⟩)
    (c23 : PySem.W.codeIn K cd23 "_law_others" = true)
    (k23 : PySem.W.keepIn K (.ref f23) = true)
    (a24 : PySem.W.nsIn K mainGlobals "_law_copies_right" = some (some (.ref f24)))
    (l24 : K.lookup f24 = some ⟨oc24, od24, .func (PySem.W.fnOf "_law_copies_right" "_law_copies_right" (defArgs s__law_copies_right) (defBody s__law_copies_right) (defScope s__law_copies_right) .none kV24 dc24 pm24 an24 cd24 ct24), sl24⟩)
    (c24 : PySem.W.codeIn K cd24 "_law_copies_right" = true)
    (k24 : PySem.W.keepIn K (.ref f24) = true)
    (a25 : PySem.W.nsIn K mainGlobals "_law_goes_on" = some (some (.ref f25)))
    (l25 : K.lookup f25 = some ⟨oc25, od25, .func (PySem.W.fnOf "_law_goes_on" "_law_goes_on" (defArgs s__law_goes_on) (defBody s__law_goes_on) (defScope s__law_goes_on) .none kV25 dc25 pm25 an25 cd25 ct25), sl25⟩)
    (c25 : PySem.W.codeIn K cd25 "_law_goes_on" = true)
    (k25 : PySem.W.keepIn K (.ref f25) = true)
    (a26 : PySem.W.nsIn K mainGlobals "_law_right" = some (some (.ref f26)))
    (l26 : K.lookup f26 = some ⟨oc26, od26, .func (PySem.W.fnOf "_law_right" "_law_right" (defArgs s__law_right) (defBody s__law_right) (defScope s__law_right) .none kV26 dc26 pm26 an26 cd26 ct26), sl26⟩)
    (c26 : PySem.W.codeIn K cd26 "_law_right" = true)
    (k26 : PySem.W.keepIn K (.ref f26) = true)
    (a27 : PySem.W.nsIn K mainGlobals "law" = some (some (.ref f27)))
    (l27 : K.lookup f27 = some ⟨oc27, od27, .func (PySem.W.fnOf "law" "law" (defArgs s_law) (defBody s_law) (defScope s_law) .none kV27 dc27 pm27 an27 cd27 ct27), sl27⟩)
    (c27 : PySem.W.codeIn K cd27 "law" = true)
    (k27 : PySem.W.keepIn K (.ref f27) = true)
    (g_Queue : PySem.W.nsIn K mainGlobals "Queue" = some (some (.ref C_Queue)))
    (pg_Queue : PySem.W.plainGet K C_Queue Str.empty = true)
    (hd_Queue : PySem.W.hasDictIn K C_Queue = true)
    (po_Queue : PySem.W.plainOver K C_Queue = true)
    (sa_Queue : PySem.W.findIn K (.ref C_Queue) "__setattr__" = some (some (.builtin "object.__setattr__")))
    (mk_Queue : PySem.W.makesIn K C_Queue = true)
    (kc_Queue : PySem.W.keepIn K (.ref C_Queue) = true)
    (ha_Queue : PySem.W.findIn K (.ref C_Queue) "__class__" = some (some (.builtin "object.__class__")))
    (xn0 : PySem.W.specialIn K (.builtin "object.__class__") "__get__" = some (some (.builtin "getset_descriptor.__get__")))
    (xt0 : PySem.W.takesIn K (.builtin "object.__class__") = some true)
    (xm0_Queue : PySem.W.mroIn K C_Queue (.type "object") = some true)
    (me_Queue : PySem.W.kitOne K (.ref C_Queue) (.ref C_Queue) = some true)
    (ne_Queue : PySem.W.findIn K (.ref C_Queue) "__ne__" = some (some (.builtin "object.__ne__")))
    (ob_Queue : PySem.W.subIn K (.ref C_Queue) (.type "object") = some true)
    (na_Queue_size : PySem.W.findIn K (.ref C_Queue) "size" = some none)
    (na_Queue_first : PySem.W.findIn K (.ref C_Queue) "first" = some none)
    (na_Queue_mark : PySem.W.findIn K (.ref C_Queue) "mark" = some none)
    (na_Queue_latest : PySem.W.findIn K (.ref C_Queue) "latest" = some none)
    (na_Queue_kept : PySem.W.findIn K (.ref C_Queue) "kept" = some none)
    (na_Queue_most_lag : PySem.W.findIn K (.ref C_Queue) "most_lag" = some none)
    (na_Queue_calls : PySem.W.findIn K (.ref C_Queue) "calls" = some none)
    (g_Arrivals : PySem.W.nsIn K mainGlobals "Arrivals" = some (some (.ref C_Arrivals)))
    (pg_Arrivals : PySem.W.plainGet K C_Arrivals Str.empty = true)
    (hd_Arrivals : PySem.W.hasDictIn K C_Arrivals = true)
    (po_Arrivals : PySem.W.plainOver K C_Arrivals = true)
    (sa_Arrivals : PySem.W.findIn K (.ref C_Arrivals) "__setattr__" = some (some (.builtin "object.__setattr__")))
    (mk_Arrivals : PySem.W.makesIn K C_Arrivals = true)
    (kc_Arrivals : PySem.W.keepIn K (.ref C_Arrivals) = true)
    (na_Arrivals_mark : PySem.W.findIn K (.ref C_Arrivals) "mark" = some none)
    (na_Arrivals_waited : PySem.W.findIn K (.ref C_Arrivals) "waited" = some none)
    (na_Arrivals_low : PySem.W.findIn K (.ref C_Arrivals) "low" = some none)
    (na_Arrivals_high : PySem.W.findIn K (.ref C_Arrivals) "high" = some none)
    (g_OutOfOrder : PySem.W.nsIn K mainGlobals "OutOfOrder" = some (some (.ref C_OutOfOrder)))
    (g_NotRemembered : PySem.W.nsIn K mainGlobals "NotRemembered" = some (some (.ref C_NotRemembered)))
    (am0 : PySem.W.findIn K (.ref C_Queue) "state" = some (some (.ref fm0)))
    (im0 : PySem.W.isFn K (.ref fm0) = true)
    (lm0 : K.lookup fm0 = some ⟨ocm0, odm0, .func (PySem.W.fnOf "state" "Queue.state" (defArgs s_Queue_state) (defBody s_Queue_state) (defScope s_Queue_state) .none kVm0 dcm0 pmm0 anm0 cdm0 ctm0), slm0⟩)
    (cm0 : PySem.W.codeIn K cdm0 "Queue.state" = true)
    (km0 : PySem.W.keepIn K (.ref fm0) = true)
    (am1 : PySem.W.findIn K (.ref C_Queue) "__eq__" = some (some (.ref fm1)))
    (im1 : PySem.W.isFn K (.ref fm1) = true)
    (lm1 : K.lookup fm1 = some ⟨ocm1, odm1, .func (PySem.W.fnOf "__eq__" "Queue.__eq__" (defArgs s_Queue___eq__) (defBody s_Queue___eq__) (defScope s_Queue___eq__) .none kVm1 dcm1 pmm1 anm1 cdm1 ctm1), slm1⟩)
    (cm1 : PySem.W.codeIn K cdm1 "Queue.__eq__" = true)
    (km1 : PySem.W.keepIn K (.ref fm1) = true)
    (am2 : PySem.W.findIn K (.ref C_Queue) "__len__" = some (some (.ref fm2)))
    (im2 : PySem.W.isFn K (.ref fm2) = true)
    (lm2 : K.lookup fm2 = some ⟨ocm2, odm2, .func (PySem.W.fnOf "__len__" "Queue.__len__" (defArgs s_Queue___len__) (defBody s_Queue___len__) (defScope s_Queue___len__) .none kVm2 dcm2 pmm2 anm2 cdm2 ctm2), slm2⟩)
    (cm2 : PySem.W.codeIn K cdm2 "Queue.__len__" = true)
    (km2 : PySem.W.keepIn K (.ref fm2) = true)
    (am3 : PySem.W.findIn K (.ref C_Queue) "__repr__" = some (some (.ref fm3)))
    (im3 : PySem.W.isFn K (.ref fm3) = true)
    (lm3 : K.lookup fm3 = some ⟨ocm3, odm3, .func (PySem.W.fnOf "__repr__" "Queue.__repr__" (defArgs s_Queue___repr__) (defBody s_Queue___repr__) (defScope s_Queue___repr__) .none kVm3 dcm3 pmm3 anm3 cdm3 ctm3), slm3⟩)
    (cm3 : PySem.W.codeIn K cdm3 "Queue.__repr__" = true)
    (km3 : PySem.W.keepIn K (.ref fm3) = true)
    (am4 : PySem.W.findIn K (.ref C_Queue) "__init__" = some (some (.ref fm4)))
    (im4 : PySem.W.isFn K (.ref fm4) = true)
    (lm4 : K.lookup fm4 = some ⟨ocm4, odm4, .func (PySem.W.fnOf "__init__" "Queue.__init__" (defArgs s_Queue___init__) (defBody s_Queue___init__) (defScope s_Queue___init__) .none (.ref Dm4) dcm4 pmm4 anm4 cdm4 ctm4), slm4⟩)
    (cm4 : PySem.W.codeIn K cdm4 "Queue.__init__" = true)
    (km4 : PySem.W.keepIn K (.ref fm4) = true)
    (kdm4_0 : PySem.W.nsIn K Dm4 "start" = some (some (.int 0 tkm4_0)))
    (am5 : PySem.W.findIn K (.ref C_Queue) "capacity" = some (some (.ref fm5)))
    (im5 : PySem.W.isFn K (.ref fm5) = true)
    (lm5 : K.lookup fm5 = some ⟨ocm5, odm5, .func (PySem.W.fnOf "capacity" "Queue.capacity" (defArgs s_Queue_capacity) (defBody s_Queue_capacity) (defScope s_Queue_capacity) .none kVm5 dcm5 pmm5 anm5 cdm5 ctm5), slm5⟩)
    (cm5 : PySem.W.codeIn K cdm5 "Queue.capacity" = true)
    (km5 : PySem.W.keepIn K (.ref fm5) = true)
    (am6 : PySem.W.findIn K (.ref C_Queue) "start" = some (some (.ref fm6)))
    (im6 : PySem.W.isFn K (.ref fm6) = true)
    (lm6 : K.lookup fm6 = some ⟨ocm6, odm6, .func (PySem.W.fnOf "start" "Queue.start" (defArgs s_Queue_start) (defBody s_Queue_start) (defScope s_Queue_start) .none kVm6 dcm6 pmm6 anm6 cdm6 ctm6), slm6⟩)
    (cm6 : PySem.W.codeIn K cdm6 "Queue.start" = true)
    (km6 : PySem.W.keepIn K (.ref fm6) = true)
    (am7 : PySem.W.findIn K (.ref C_Queue) "passed" = some (some (.ref fm7)))
    (im7 : PySem.W.isFn K (.ref fm7) = true)
    (lm7 : K.lookup fm7 = some ⟨ocm7, odm7, .func (PySem.W.fnOf "passed" "Queue.passed" (defArgs s_Queue_passed) (defBody s_Queue_passed) (defScope s_Queue_passed) .none kVm7 dcm7 pmm7 anm7 cdm7 ctm7), slm7⟩)
    (cm7 : PySem.W.codeIn K cdm7 "Queue.passed" = true)
    (km7 : PySem.W.keepIn K (.ref fm7) = true)
    (am8 : PySem.W.findIn K (.ref C_Queue) "newest" = some (some (.ref fm8)))
    (im8 : PySem.W.isFn K (.ref fm8) = true)
    (lm8 : K.lookup fm8 = some ⟨ocm8, odm8, .func (PySem.W.fnOf "newest" "Queue.newest" (defArgs s_Queue_newest) (defBody s_Queue_newest) (defScope s_Queue_newest) .none kVm8 dcm8 pmm8 anm8 cdm8 ctm8), slm8⟩)
    (cm8 : PySem.W.codeIn K cdm8 "Queue.newest" = true)
    (km8 : PySem.W.keepIn K (.ref fm8) = true)
    (am9 : PySem.W.findIn K (.ref C_Queue) "waiting" = some (some (.ref fm9)))
    (im9 : PySem.W.isFn K (.ref fm9) = true)
    (lm9 : K.lookup fm9 = some ⟨ocm9, odm9, .func (PySem.W.fnOf "waiting" "Queue.waiting" (defArgs s_Queue_waiting) (defBody s_Queue_waiting) (defScope s_Queue_waiting) .none kVm9 dcm9 pmm9 anm9 cdm9 ctm9), slm9⟩)
    (cm9 : PySem.W.codeIn K cdm9 "Queue.waiting" = true)
    (km9 : PySem.W.keepIn K (.ref fm9) = true)
    (am10 : PySem.W.findIn K (.ref C_Arrivals) "__init__" = some (some (.ref fm10)))
    (im10 : PySem.W.isFn K (.ref fm10) = true)
    (lm10 : K.lookup fm10 = some ⟨ocm10, odm10, .func (PySem.W.fnOf "__init__" "Arrivals.__init__" (defArgs s_Arrivals___init__) (defBody s_Arrivals___init__) (defScope s_Arrivals___init__) .none kVm10 dcm10 pmm10 anm10 cdm10 ctm10), slm10⟩)
    (cm10 : PySem.W.codeIn K cdm10 "Arrivals.__init__" = true)
    (km10 : PySem.W.keepIn K (.ref fm10) = true)
    (am11 : PySem.W.findIn K (.ref C_Arrivals) "after" = some (some (.ref fm11)))
    (im11 : PySem.W.isFn K (.ref fm11) = true)
    (lm11 : K.lookup fm11 = some ⟨ocm11, odm11, .func (PySem.W.fnOf "after" "Arrivals.after" (defArgs s_Arrivals_after) (defBody s_Arrivals_after) (defScope s_Arrivals_after) .none kVm11 dcm11 pmm11 anm11 cdm11 ctm11), slm11⟩)
    (cm11 : PySem.W.codeIn K cdm11 "Arrivals.after" = true)
    (km11 : PySem.W.keepIn K (.ref fm11) = true)
    (am12 : PySem.W.findIn K (.ref C_Arrivals) "does_hold" = some (some (.ref fm12)))
    (im12 : PySem.W.isFn K (.ref fm12) = true)
    (lm12 : K.lookup fm12 = some ⟨ocm12, odm12, .func (PySem.W.fnOf "does_hold" "Arrivals.does_hold" (defArgs s_Arrivals_does_hold) (defBody s_Arrivals_does_hold) (defScope s_Arrivals_does_hold) .none kVm12 dcm12 pmm12 anm12 cdm12 ctm12), slm12⟩)
    (cm12 : PySem.W.codeIn K cdm12 "Arrivals.does_hold" = true)
    (km12 : PySem.W.keepIn K (.ref fm12) = true)
    (am13 : PySem.W.findIn K (.ref C_Arrivals) "drop" = some (some (.ref fm13)))
    (im13 : PySem.W.isFn K (.ref fm13) = true)
    (lm13 : K.lookup fm13 = some ⟨ocm13, odm13, .func (PySem.W.fnOf "drop" "Arrivals.drop" (defArgs s_Arrivals_drop) (defBody s_Arrivals_drop) (defScope s_Arrivals_drop) .none kVm13 dcm13 pmm13 anm13 cdm13 ctm13), slm13⟩)
    (cm13 : PySem.W.codeIn K cdm13 "Arrivals.drop" = true)
    (km13 : PySem.W.keepIn K (.ref fm13) = true)
    (am14 : PySem.W.findIn K (.ref C_Queue) "drop_of" = some (some (.ref fm14)))
    (im14 : PySem.W.isFn K (.ref fm14) = true)
    (lm14 : K.lookup fm14 = some ⟨ocm14, odm14, .func (PySem.W.fnOf "drop_of" "Queue.drop_of" (defArgs s_Queue_drop_of) (defBody s_Queue_drop_of) (defScope s_Queue_drop_of) .none kVm14 dcm14 pmm14 anm14 cdm14 ctm14), slm14⟩)
    (cm14 : PySem.W.codeIn K cdm14 "Queue.drop_of" = true)
    (km14 : PySem.W.keepIn K (.ref fm14) = true)
    (am15 : PySem.W.findIn K (.ref C_Queue) "lag" = some (some (.ref fm15)))
    (im15 : PySem.W.isFn K (.ref fm15) = true)
    (lm15 : K.lookup fm15 = some ⟨ocm15, odm15, .func (PySem.W.fnOf "lag" "Queue.lag" (defArgs s_Queue_lag) (defBody s_Queue_lag) (defScope s_Queue_lag) .none kVm15 dcm15 pmm15 anm15 cdm15 ctm15), slm15⟩)
    (cm15 : PySem.W.codeIn K cdm15 "Queue.lag" = true)
    (km15 : PySem.W.keepIn K (.ref fm15) = true)
    (am16 : PySem.W.findIn K (.ref C_Queue) "greatest_lag" = some (some (.ref fm16)))
    (im16 : PySem.W.isFn K (.ref fm16) = true)
    (lm16 : K.lookup fm16 = some ⟨ocm16, odm16, .func (PySem.W.fnOf "greatest_lag" "Queue.greatest_lag" (defArgs s_Queue_greatest_lag) (defBody s_Queue_greatest_lag) (defScope s_Queue_greatest_lag) .none kVm16 dcm16 pmm16 anm16 cdm16 ctm16), slm16⟩)
    (cm16 : PySem.W.codeIn K cdm16 "Queue.greatest_lag" = true)
    (km16 : PySem.W.keepIn K (.ref fm16) = true)
    (am17 : PySem.W.findIn K (.ref C_Queue) "arrival_bound" = some (some (.ref fm17)))
    (im17 : PySem.W.isFn K (.ref fm17) = true)
    (lm17 : K.lookup fm17 = some ⟨ocm17, odm17, .func (PySem.W.fnOf "arrival_bound" "Queue.arrival_bound" (defArgs s_Queue_arrival_bound) (defBody s_Queue_arrival_bound) (defScope s_Queue_arrival_bound) .none kVm17 dcm17 pmm17 anm17 cdm17 ctm17), slm17⟩)
    (cm17 : PySem.W.codeIn K cdm17 "Queue.arrival_bound" = true)
    (km17 : PySem.W.keepIn K (.ref fm17) = true)
    (am18 : PySem.W.findIn K (.ref C_OutOfOrder) "__init__" = some (some (.ref fm18)))
    (im18 : PySem.W.isFn K (.ref fm18) = true)
    (lm18 : K.lookup fm18 = some ⟨ocm18, odm18, .func (PySem.W.fnOf "__init__" "OutOfOrder.__init__" (defArgs s_OutOfOrder___init__) (defBody s_OutOfOrder___init__) (defScope s_OutOfOrder___init__) .none kVm18 dcm18 pmm18 anm18 cdm18 ctm18), slm18⟩)
    (cm18 : PySem.W.codeIn K cdm18 "OutOfOrder.__init__" = true)
    (km18 : PySem.W.keepIn K (.ref fm18) = true)
    (am19 : PySem.W.findIn K (.ref C_Queue) "arrive" = some (some (.ref fm19)))
    (im19 : PySem.W.isFn K (.ref fm19) = true)
    (lm19 : K.lookup fm19 = some ⟨ocm19, odm19, .func (PySem.W.fnOf "arrive" "Queue.arrive" (defArgs s_Queue_arrive) (defBody s_Queue_arrive) (defScope s_Queue_arrive) .none kVm19 dcm19 pmm19 anm19 cdm19 ctm19), slm19⟩)
    (cm19 : PySem.W.codeIn K cdm19 "Queue.arrive" = true)
    (km19 : PySem.W.keepIn K (.ref fm19) = true)
    (am20 : PySem.W.findIn K (.ref C_Queue) "push_range" = some (some (.ref fm20)))
    (im20 : PySem.W.isFn K (.ref fm20) = true)
    (lm20 : K.lookup fm20 = some ⟨ocm20, odm20, .func (PySem.W.fnOf "push_range" "Queue.push_range" (defArgs s_Queue_push_range) (defBody s_Queue_push_range) (defScope s_Queue_push_range) .none kVm20 dcm20 pmm20 anm20 cdm20 ctm20), slm20⟩)
    (cm20 : PySem.W.codeIn K cdm20 "Queue.push_range" = true)
    (km20 : PySem.W.keepIn K (.ref fm20) = true)
    (am21 : PySem.W.findIn K (.ref C_Queue) "arrived" = some (some (.ref fm21)))
    (im21 : PySem.W.isFn K (.ref fm21) = true)
    (lm21 : K.lookup fm21 = some ⟨ocm21, odm21, .func (PySem.W.fnOf "arrived" "Queue.arrived" (defArgs s_Queue_arrived) (defBody s_Queue_arrived) (defScope s_Queue_arrived) .none kVm21 dcm21 pmm21 anm21 cdm21 ctm21), slm21⟩)
    (cm21 : PySem.W.codeIn K cdm21 "Queue.arrived" = true)
    (km21 : PySem.W.keepIn K (.ref fm21) = true)
    (am22 : PySem.W.findIn K (.ref C_Queue) "push" = some (some (.ref fm22)))
    (im22 : PySem.W.isFn K (.ref fm22) = true)
    (lm22 : K.lookup fm22 = some ⟨ocm22, odm22, .func (PySem.W.fnOf "push" "Queue.push" (defArgs s_Queue_push) (defBody s_Queue_push) (defScope s_Queue_push) .none kVm22 dcm22 pmm22 anm22 cdm22 ctm22), slm22⟩)
    (cm22 : PySem.W.codeIn K cdm22 "Queue.push" = true)
    (km22 : PySem.W.keepIn K (.ref fm22) = true)
    (am23 : PySem.W.findIn K (.ref C_Queue) "advance" = some (some (.ref fm23)))
    (im23 : PySem.W.isFn K (.ref fm23) = true)
    (lm23 : K.lookup fm23 = some ⟨ocm23, odm23, .func (PySem.W.fnOf "advance" "Queue.advance" (defArgs s_Queue_advance) (defBody s_Queue_advance) (defScope s_Queue_advance) .none kVm23 dcm23 pmm23 anm23 cdm23 ctm23), slm23⟩)
    (cm23 : PySem.W.codeIn K cdm23 "Queue.advance" = true)
    (km23 : PySem.W.keepIn K (.ref fm23) = true)
    (am24 : PySem.W.findIn K (.ref C_NotRemembered) "__init__" = some (some (.ref fm24)))
    (im24 : PySem.W.isFn K (.ref fm24) = true)
    (lm24 : K.lookup fm24 = some ⟨ocm24, odm24, .func (PySem.W.fnOf "__init__" "NotRemembered.__init__" (defArgs s_NotRemembered___init__) (defBody s_NotRemembered___init__) (defScope s_NotRemembered___init__) .none kVm24 dcm24 pmm24 anm24 cdm24 ctm24), slm24⟩)
    (cm24 : PySem.W.codeIn K cdm24 "NotRemembered.__init__" = true)
    (km24 : PySem.W.keepIn K (.ref fm24) = true)
    (am25 : PySem.W.findIn K (.ref C_Queue) "forecast" = some (some (.ref fm25)))
    (im25 : PySem.W.isFn K (.ref fm25) = true)
    (lm25 : K.lookup fm25 = some ⟨ocm25, odm25, .func (PySem.W.fnOf "forecast" "Queue.forecast" (defArgs s_Queue_forecast) (defBody s_Queue_forecast) (defScope s_Queue_forecast) .none kVm25 dcm25 pmm25 anm25 cdm25 ctm25), slm25⟩)
    (cm25 : PySem.W.codeIn K cdm25 "Queue.forecast" = true)
    (km25 : PySem.W.keepIn K (.ref fm25) = true)
    (am26 : PySem.W.findIn K (.ref C_Queue) "copy" = some (some (.ref fm26)))
    (im26 : PySem.W.isFn K (.ref fm26) = true)
    (lm26 : K.lookup fm26 = some ⟨ocm26, odm26, .func (PySem.W.fnOf "copy" "Queue.copy" (defArgs s_Queue_copy) (defBody s_Queue_copy) (defScope s_Queue_copy) .none kVm26 dcm26 pmm26 anm26 cdm26 ctm26), slm26⟩)
    (cm26 : PySem.W.codeIn K cdm26 "Queue.copy" = true)
    (km26 : PySem.W.keepIn K (.ref fm26) = true)
    (g_InvalidVersion : PySem.W.nsIn K mainGlobals "InvalidVersion" = some (some (.ref C_InvalidVersion)))
    (sb_InvalidVersion : PySem.W.subIn K (.ref C_InvalidVersion) (.type "BaseException") = some true)
    (ty_InvalidVersion : PySem.W.typeIn K (.ref C_InvalidVersion) = some (.type "type"))
    (dd_InvalidVersion : PySem.W.hasDictIn K C_InvalidVersion = true)
    (xc_InvalidVersion : PySem.W.excIn K C_InvalidVersion [.type "ValueError", .type "Exception", .type "BaseException", .type "object"] "ValueError.__new__" = true)
    (kp_InvalidVersion : PySem.W.keepIn K (.ref C_InvalidVersion) = true)
    (xg_InvalidVersion : PySem.W.findIn K (.ref C_InvalidVersion) "__getattribute__" = some (some (.builtin "BaseException.__getattribute__")))
    (xk_InvalidVersion : PySem.W.findIn K (.ref C_InvalidVersion) "__getattr__" = some none)
    (xa_InvalidVersion : PySem.W.findIn K (.ref C_InvalidVersion) "__class__" = some (some (.builtin "object.__class__")))
    (xn : PySem.W.specialIn K (.builtin "object.__class__") "__get__" = some (some (.builtin "getset_descriptor.__get__")))
    (xt : PySem.W.takesIn K (.builtin "object.__class__") = some true)
    (xm_InvalidVersion : PySem.W.mroIn K C_InvalidVersion (.type "object") = some true)
    (g_InvalidNumber : PySem.W.nsIn K mainGlobals "InvalidNumber" = some (some (.ref C_InvalidNumber)))
    (sb_InvalidNumber : PySem.W.subIn K (.ref C_InvalidNumber) (.type "BaseException") = some true)
    (ty_InvalidNumber : PySem.W.typeIn K (.ref C_InvalidNumber) = some (.type "type"))
    (dd_InvalidNumber : PySem.W.hasDictIn K C_InvalidNumber = true)
    (xc_InvalidNumber : PySem.W.excIn K C_InvalidNumber [.type "ValueError", .type "Exception", .type "BaseException", .type "object"] "ValueError.__new__" = true)
    (kp_InvalidNumber : PySem.W.keepIn K (.ref C_InvalidNumber) = true)
    (xg_InvalidNumber : PySem.W.findIn K (.ref C_InvalidNumber) "__getattribute__" = some (some (.builtin "BaseException.__getattribute__")))
    (xk_InvalidNumber : PySem.W.findIn K (.ref C_InvalidNumber) "__getattr__" = some none)
    (xa_InvalidNumber : PySem.W.findIn K (.ref C_InvalidNumber) "__class__" = some (some (.builtin "object.__class__")))
    (xm_InvalidNumber : PySem.W.mroIn K C_InvalidNumber (.type "object") = some true)
    (g_InvalidCapacity : PySem.W.nsIn K mainGlobals "InvalidCapacity" = some (some (.ref C_InvalidCapacity)))
    (sb_InvalidCapacity : PySem.W.subIn K (.ref C_InvalidCapacity) (.type "BaseException") = some true)
    (ty_InvalidCapacity : PySem.W.typeIn K (.ref C_InvalidCapacity) = some (.type "type"))
    (dd_InvalidCapacity : PySem.W.hasDictIn K C_InvalidCapacity = true)
    (xc_InvalidCapacity : PySem.W.excIn K C_InvalidCapacity [.type "ValueError", .type "Exception", .type "BaseException", .type "object"] "ValueError.__new__" = true)
    (kp_InvalidCapacity : PySem.W.keepIn K (.ref C_InvalidCapacity) = true)
    (xg_InvalidCapacity : PySem.W.findIn K (.ref C_InvalidCapacity) "__getattribute__" = some (some (.builtin "BaseException.__getattribute__")))
    (xk_InvalidCapacity : PySem.W.findIn K (.ref C_InvalidCapacity) "__getattr__" = some none)
    (xa_InvalidCapacity : PySem.W.findIn K (.ref C_InvalidCapacity) "__class__" = some (some (.builtin "object.__class__")))
    (xm_InvalidCapacity : PySem.W.mroIn K C_InvalidCapacity (.type "object") = some true)
    (sb_NotRemembered : PySem.W.subIn K (.ref C_NotRemembered) (.type "BaseException") = some true)
    (ty_NotRemembered : PySem.W.typeIn K (.ref C_NotRemembered) = some (.type "type"))
    (dd_NotRemembered : PySem.W.hasDictIn K C_NotRemembered = true)
    (xg_NotRemembered : PySem.W.findIn K (.ref C_NotRemembered) "__getattribute__" = some (some (.builtin "BaseException.__getattribute__")))
    (xk_NotRemembered : PySem.W.findIn K (.ref C_NotRemembered) "__getattr__" = some none)
    (xa_NotRemembered : PySem.W.findIn K (.ref C_NotRemembered) "__class__" = some (some (.builtin "object.__class__")))
    (xm_NotRemembered : PySem.W.mroIn K C_NotRemembered (.type "object") = some true)
    (g_SamplingError : PySem.W.nsIn K mainGlobals "SamplingError" = some (some (.ref C_SamplingError)))
    (sb_OutOfOrder : PySem.W.subIn K (.ref C_OutOfOrder) (.type "BaseException") = some true)
    (ty_OutOfOrder : PySem.W.typeIn K (.ref C_OutOfOrder) = some (.type "type"))
    (dd_OutOfOrder : PySem.W.hasDictIn K C_OutOfOrder = true)
    (xg_OutOfOrder : PySem.W.findIn K (.ref C_OutOfOrder) "__getattribute__" = some (some (.builtin "BaseException.__getattribute__")))
    (xk_OutOfOrder : PySem.W.findIn K (.ref C_OutOfOrder) "__getattr__" = some none)
    (oi_OutOfOrder : PySem.W.excInitIn K C_OutOfOrder [.type "ValueError", .type "Exception", .type "BaseException", .type "object"] "ValueError.__new__" = true)
    (ov_OutOfOrder : PySem.W.excOver K C_OutOfOrder [.type "ValueError", .type "Exception", .type "BaseException", .type "object"] = true)
    (osa_OutOfOrder : PySem.W.findIn K (.ref C_OutOfOrder) "__setattr__" = some (some (.builtin "object.__setattr__")))
    (kp_OutOfOrder : PySem.W.keepIn K (.ref C_OutOfOrder) = true)
    (nf_OutOfOrder_version : PySem.W.findIn K (.ref C_OutOfOrder) "version" = some none)
    (nf_OutOfOrder_bound : PySem.W.findIn K (.ref C_OutOfOrder) "bound" = some none)
    (oi_NotRemembered : PySem.W.excInitIn K C_NotRemembered [.type "KeyError", .type "LookupError", .type "Exception", .type "BaseException", .type "object"] "LookupError.__new__" = true)
    (ov_NotRemembered : PySem.W.excOver K C_NotRemembered [.type "KeyError", .type "LookupError", .type "Exception", .type "BaseException", .type "object"] = true)
    (osa_NotRemembered : PySem.W.findIn K (.ref C_NotRemembered) "__setattr__" = some (some (.builtin "object.__setattr__")))
    (kp_NotRemembered : PySem.W.keepIn K (.ref C_NotRemembered) = true)
    (nf_NotRemembered_version : PySem.W.findIn K (.ref C_NotRemembered) "version" = some none)
    (oga_SamplingError : PySem.W.specialIn K (.ref C_SamplingError) "__getattribute__" = some (some (.builtin "type.__getattribute__")))
    (ord_SamplingError : PySem.W.readsIn K C_SamplingError (.type "type") = true)
    (ovi_SamplingError : PySem.W.findCls K (.ref C_SamplingError) (.type "type") "__init__" = some (.val (.builtin "ValueError.__init__")))
    (ovi_KeyError : PySem.W.findCls K (.type "KeyError") (.type "type") "__init__" = some (.val (.builtin "KeyError.__init__")))
    (su_OutOfOrder_OutOfOrder : PySem.W.subIn K (.ref C_OutOfOrder) (.ref C_OutOfOrder) = some true)
    (su_InvalidCapacity_OutOfOrder : PySem.W.subIn K (.ref C_InvalidCapacity) (.ref C_OutOfOrder) = some false)
    (sb_SamplingError : PySem.W.subIn K (.ref C_SamplingError) (.type "BaseException") = some true)
    (ty_SamplingError : PySem.W.typeIn K (.ref C_SamplingError) = some (.type "type"))
    (dd_SamplingError : PySem.W.hasDictIn K C_SamplingError = true)
    (su_InvalidCapacity_SamplingError : PySem.W.subIn K (.ref C_InvalidCapacity) (.ref C_SamplingError) = some true)
    (su_InvalidNumber_OutOfOrder : PySem.W.subIn K (.ref C_InvalidNumber) (.ref C_OutOfOrder) = some false)
    (su_InvalidNumber_SamplingError : PySem.W.subIn K (.ref C_InvalidNumber) (.ref C_SamplingError) = some true)
    (su_InvalidVersion_OutOfOrder : PySem.W.subIn K (.ref C_InvalidVersion) (.ref C_OutOfOrder) = some false)
    (su_InvalidVersion_SamplingError : PySem.W.subIn K (.ref C_InvalidVersion) (.ref C_SamplingError) = some true)
    (su_InvalidCapacity_InvalidNumber : PySem.W.subIn K (.ref C_InvalidCapacity) (.ref C_InvalidNumber) = some false)
    (nq_InvalidCapacity_InvalidNumber : (C_InvalidCapacity == C_InvalidNumber) = false)
    (su_InvalidCapacity_InvalidVersion : PySem.W.subIn K (.ref C_InvalidCapacity) (.ref C_InvalidVersion) = some false)
    (nq_InvalidCapacity_InvalidVersion : (C_InvalidCapacity == C_InvalidVersion) = false)
    (su_InvalidNumber_InvalidCapacity : PySem.W.subIn K (.ref C_InvalidNumber) (.ref C_InvalidCapacity) = some false)
    (nq_InvalidNumber_InvalidCapacity : (C_InvalidNumber == C_InvalidCapacity) = false)
    (su_InvalidNumber_InvalidVersion : PySem.W.subIn K (.ref C_InvalidNumber) (.ref C_InvalidVersion) = some false)
    (nq_InvalidNumber_InvalidVersion : (C_InvalidNumber == C_InvalidVersion) = false)
    (su_InvalidVersion_InvalidCapacity : PySem.W.subIn K (.ref C_InvalidVersion) (.ref C_InvalidCapacity) = some false)
    (nq_InvalidVersion_InvalidCapacity : (C_InvalidVersion == C_InvalidCapacity) = false)
    (su_InvalidVersion_InvalidNumber : PySem.W.subIn K (.ref C_InvalidVersion) (.ref C_InvalidNumber) = some false)
    (nq_InvalidVersion_InvalidNumber : (C_InvalidVersion == C_InvalidNumber) = false)
    (q_LEAST_CAPACITY : PySem.W.nsIn K mainGlobals "LEAST_CAPACITY" = some (some (.int 2 t_LEAST_CAPACITY)))
    (q_MOST_CAPACITY : PySem.W.nsIn K mainGlobals "MOST_CAPACITY" = some (some (.int 9 t_MOST_CAPACITY)))
    (ty_Queue : PySem.W.typeIn K (.ref C_Queue) = some (.type "type"))
    (nt_Queue_NoneType : PySem.W.subIn K (.type "NoneType") (.ref C_Queue) = some false)
    (nt_Queue_bool : PySem.W.subIn K (.type "bool") (.ref C_Queue) = some false)
    (nt_Queue_int : PySem.W.subIn K (.type "int") (.ref C_Queue) = some false)
    (nt_Queue_str : PySem.W.subIn K (.type "str") (.ref C_Queue) = some false)
    (nt_Queue_list : PySem.W.subIn K (.type "list") (.ref C_Queue) = some false)
    (nt_Queue_tuple : PySem.W.subIn K (.type "tuple") (.ref C_Queue) = some false)
    (nt_Queue_dict : PySem.W.subIn K (.type "dict") (.ref C_Queue) = some false)
    (su_NotRemembered_Queue : PySem.W.subIn K (.ref C_NotRemembered) (.ref C_Queue) = some false)
    (nq_NotRemembered_Queue : (C_NotRemembered == C_Queue) = false)
    (z_KeyError : PySem.W.nsIn K mainGlobals "KeyError" = some none)
    (z_ValueError : PySem.W.nsIn K mainGlobals "ValueError" = some none)
    (z_abs : PySem.W.nsIn K mainGlobals "abs" = some none)
    (z_all : PySem.W.nsIn K mainGlobals "all" = some none)
    (z_any : PySem.W.nsIn K mainGlobals "any" = some none)
    (z_bool : PySem.W.nsIn K mainGlobals "bool" = some none)
    (z_divmod : PySem.W.nsIn K mainGlobals "divmod" = some none)
    (z_int : PySem.W.nsIn K mainGlobals "int" = some none)
    (z_isinstance : PySem.W.nsIn K mainGlobals "isinstance" = some none)
    (z_len : PySem.W.nsIn K mainGlobals "len" = some none)
    (z_list : PySem.W.nsIn K mainGlobals "list" = some none)
    (z_max : PySem.W.nsIn K mainGlobals "max" = some none)
    (z_min : PySem.W.nsIn K mainGlobals "min" = some none)
    (z_range : PySem.W.nsIn K mainGlobals "range" = some none)
    (z_repr : PySem.W.nsIn K mainGlobals "repr" = some none)
    (z_sorted : PySem.W.nsIn K mainGlobals "sorted" = some none)
    (z_str : PySem.W.nsIn K mainGlobals "str" = some none)
    (z_tuple : PySem.W.nsIn K mainGlobals "tuple" = some none)
    : ∃ fd : FuncData, (∀ (s : Shared) (u : Value), BindsTo s fd ⟨[u], []⟩ [("_law_script", u)]) ∧ ∀ base : Heap, FnG l.prog w K mg base 14 fa fd ["_law_script"] (sp_end K) :=
  let T : All K mg := {
    is_int := def_mk ["value"] X G a0 l0 c0 k0 fun us hl => match us, hl with | [_], _ => rfl,
    is_version := def_mk ["value"] X G a1 l1 c1 k1 fun us hl => match us, hl with | [_], _ => rfl,
    want_version := def_mk ["value"] X G a2 l2 c2 k2 fun us hl => match us, hl with | [_], _ => rfl,
    want_number := def_mk ["value", "least"] X G a3 l3 c3 k3 fun us hl => match us, hl with | [_, _], _ => rfl,
    lowest_bit := def_mk ["version"] X G a4 l4 c4 k4 fun us hl => match us, hl with | [_], _ => rfl,
    precedes := def_mk ["version", "other"] X G a5 l5 c5 k5 fun us hl => match us, hl with | [_, _], _ => rfl,
    odd_multiples := def_mk ["low", "high", "power", "count"] X G a6 l6 c6 k6 fun us hl => match us, hl with | [_, _, _, _], _ => rfl,
    strongest := def_mk ["low", "high", "count"] X G a7 l7 c7 k7 fun us hl => match us, hl with | [_, _, _], _ => rfl,
    want_capacity := def_mk ["capacity"] X G a8 l8 c8 k8 fun us hl => match us, hl with | [_], _ => rfl,
    weakest := def_mk ["versions"] X G a9 l9 c9 k9 fun us hl => match us, hl with | [_], _ => rfl,
    after_range := def_mk ["waiting", "low", "high", "capacity"] X G a10 l10 c10 k10 fun us hl => match us, hl with | [_, _, _, _], _ => rfl,
    _law_pot := def_mk ["_law_script", "_law_k"] X G a11 l11 c11 k11 fun us hl => match us, hl with | [_, _], _ => rfl,
    _law_digit := def_mk ["_law_pot_here", "_law_many"] X G a12 l12 c12 k12 fun us hl => match us, hl with | [_, _], _ => rfl,
    _law_pick := def_mk ["_law_pot_here", "_law_some"] X G a13 l13 c13 k13 fun us hl => match us, hl with | [_, _], _ => rfl,
    _law_queue := def_mk ["_law_pot_here"] X G a14 l14 c14 k14 fun us hl => match us, hl with | [_], _ => rfl,
    _law_next := def_mk ["_law_pot_here", "_law_queue_here"] X G a15 l15 c15 k15 fun us hl => match us, hl with | [_, _], _ => rfl,
    _law_call := def_mk ["_law_pot_here", "_law_queue_here"] X G a16 l16 c16 k16 fun us hl => match us, hl with | [_, _], _ => rfl,
    _law_called := def_mk ["_law_way", "_law_queue_here", "_law_one", "_law_other"] X G a17 l17 c17 k17 fun us hl => match us, hl with | [_, _, _, _], _ => rfl,
    _law_told := def_mk ["_law_way", "_law_queue_here", "_law_one", "_law_other"] X G a18 l18 c18 k18 fun us hl => match us, hl with | [_, _, _, _], _ => rfl,
    _law_bad := def_mk ["_law_pot_here"] X G a19 l19 c19 k19 fun us hl => match us, hl with | [_], _ => rfl,
    _law_refused_right := def_mk ["_law_pot_here", "_law_queue_here"] X G a20 l20 c20 k20 fun us hl => match us, hl with | [_, _], _ => rfl,
    _law_state := def_mk ["_law_queue_here"] X G a21 l21 c21 k21 fun us hl => match us, hl with | [_], _ => rfl,
    _law_written := def_mk ["_law_queue_here"] X G a22 l22 c22 k22 fun us hl => match us, hl with | [_], _ => rfl,
    _law_others := def_mk ["_law_queue_here"] X G a23 l23 c23 k23 fun us hl => match us, hl with | [_], _ => rfl,
    _law_copies_right := def_mk ["_law_queue_here"] X G a24 l24 c24 k24 fun us hl => match us, hl with | [_], _ => rfl,
    _law_goes_on := def_mk ["_law_queue_here", "_law_twin"] X G a25 l25 c25 k25 fun us hl => match us, hl with | [_, _], _ => rfl,
    _law_right := def_mk ["_law_pot_here"] X G a26 l26 c26 k26 fun us hl => match us, hl with | [_], _ => rfl,
    law := def_mk ["_law_script"] X G a27 l27 c27 k27 fun us hl => match us, hl with | [_], _ => rfl,
    Queue := C_Queue,
    Queue_c := ⟨pg_Queue, hd_Queue, po_Queue, sa_Queue⟩,
    Queue_k := ⟨PySem.W.mg_of X G g_Queue, mk_Queue, kc_Queue⟩,
    Queue_g := PySem.W.mg_of X G g_Queue,
    Queue_is := ⟨⟨pg_Queue, hd_Queue, po_Queue, sa_Queue⟩, ha_Queue, xn0, xt0, xm0_Queue, me_Queue⟩,
    Queue_ne := ⟨ne_Queue, ob_Queue⟩,
    Queue_n_size := na_Queue_size,
    Queue_n_first := na_Queue_first,
    Queue_n_mark := na_Queue_mark,
    Queue_n_latest := na_Queue_latest,
    Queue_n_kept := na_Queue_kept,
    Queue_n_most_lag := na_Queue_most_lag,
    Queue_n_calls := na_Queue_calls,
    Arrivals := C_Arrivals,
    Arrivals_c := ⟨pg_Arrivals, hd_Arrivals, po_Arrivals, sa_Arrivals⟩,
    Arrivals_k := ⟨PySem.W.mg_of X G g_Arrivals, mk_Arrivals, kc_Arrivals⟩,
    Arrivals_g := PySem.W.mg_of X G g_Arrivals,
    Arrivals_n_mark := na_Arrivals_mark,
    Arrivals_n_waited := na_Arrivals_waited,
    Arrivals_n_low := na_Arrivals_low,
    Arrivals_n_high := na_Arrivals_high,
    Queue_state := ⟨fm0, _, fun_mk lm0 cm0 km0, ⟨am0, im0, km0⟩, (fun_mk (st := s_Queue_state) lm0 cm0 km0).binds (ps := ["self"]) fun _ _ _ _ _ _ us hl => match us, hl with | [_], _ => rfl⟩,
    Queue___eq__ := ⟨fm1, _, fun_mk lm1 cm1 km1, ⟨am1, im1, km1⟩, (fun_mk (st := s_Queue___eq__) lm1 cm1 km1).binds (ps := ["self", "other"]) fun _ _ _ _ _ _ us hl => match us, hl with | [_, _], _ => rfl⟩,
    Queue___len__ := ⟨fm2, _, fun_mk lm2 cm2 km2, ⟨am2, im2, km2⟩, (fun_mk (st := s_Queue___len__) lm2 cm2 km2).binds (ps := ["self"]) fun _ _ _ _ _ _ us hl => match us, hl with | [_], _ => rfl⟩,
    Queue___repr__ := ⟨fm3, _, fun_mk lm3 cm3 km3, ⟨am3, im3, km3⟩, (fun_mk (st := s_Queue___repr__) lm3 cm3 km3).binds (ps := ["self"]) fun _ _ _ _ _ _ us hl => match us, hl with | [_], _ => rfl⟩,
    Queue___init__ := ⟨fm4, _, ⟨⟨_, _, _, _, _, _, _, _, _, _, rfl, lm4, cm4, .inl ⟨rfl, rfl⟩, .inr ⟨Dm4, rfl, fun z hz => by simp only [List.mem_cons, List.not_mem_nil, or_false] at hz; rcases hz with rfl <;> first | exact ⟨_, kdm4_0, _, rfl⟩⟩⟩, km4⟩, ⟨am4, im4, km4⟩⟩,
    Queue_capacity := ⟨fm5, _, fun_mk lm5 cm5 km5, ⟨am5, im5, km5⟩, (fun_mk (st := s_Queue_capacity) lm5 cm5 km5).binds (ps := ["self"]) fun _ _ _ _ _ _ us hl => match us, hl with | [_], _ => rfl⟩,
    Queue_start := ⟨fm6, _, fun_mk lm6 cm6 km6, ⟨am6, im6, km6⟩, (fun_mk (st := s_Queue_start) lm6 cm6 km6).binds (ps := ["self"]) fun _ _ _ _ _ _ us hl => match us, hl with | [_], _ => rfl⟩,
    Queue_passed := ⟨fm7, _, fun_mk lm7 cm7 km7, ⟨am7, im7, km7⟩, (fun_mk (st := s_Queue_passed) lm7 cm7 km7).binds (ps := ["self"]) fun _ _ _ _ _ _ us hl => match us, hl with | [_], _ => rfl⟩,
    Queue_newest := ⟨fm8, _, fun_mk lm8 cm8 km8, ⟨am8, im8, km8⟩, (fun_mk (st := s_Queue_newest) lm8 cm8 km8).binds (ps := ["self"]) fun _ _ _ _ _ _ us hl => match us, hl with | [_], _ => rfl⟩,
    Queue_waiting := ⟨fm9, _, fun_mk lm9 cm9 km9, ⟨am9, im9, km9⟩, (fun_mk (st := s_Queue_waiting) lm9 cm9 km9).binds (ps := ["self"]) fun _ _ _ _ _ _ us hl => match us, hl with | [_], _ => rfl⟩,
    Arrivals___init__ := ⟨fm10, _, fun_mk lm10 cm10 km10, ⟨am10, im10, km10⟩, (fun_mk (st := s_Arrivals___init__) lm10 cm10 km10).binds (ps := ["self", "mark", "waiting", "low", "high"]) fun _ _ _ _ _ _ us hl => match us, hl with | [_, _, _, _, _], _ => rfl⟩,
    Arrivals_after := ⟨fm11, _, fun_mk lm11 cm11 km11, ⟨am11, im11, km11⟩, (fun_mk (st := s_Arrivals_after) lm11 cm11 km11).binds (ps := ["self", "version", "capacity"]) fun _ _ _ _ _ _ us hl => match us, hl with | [_, _, _], _ => rfl⟩,
    Arrivals_does_hold := ⟨fm12, _, fun_mk lm12 cm12 km12, ⟨am12, im12, km12⟩, (fun_mk (st := s_Arrivals_does_hold) lm12 cm12 km12).binds (ps := ["self", "version"]) fun _ _ _ _ _ _ us hl => match us, hl with | [_, _], _ => rfl⟩,
    Arrivals_drop := ⟨fm13, _, fun_mk lm13 cm13 km13, ⟨am13, im13, km13⟩, (fun_mk (st := s_Arrivals_drop) lm13 cm13 km13).binds (ps := ["self", "version", "capacity"]) fun _ _ _ _ _ _ us hl => match us, hl with | [_, _, _], _ => rfl⟩,
    Queue_drop_of := ⟨fm14, _, fun_mk lm14 cm14 km14, ⟨am14, im14, km14⟩, (fun_mk (st := s_Queue_drop_of) lm14 cm14 km14).binds (ps := ["self", "version"]) fun _ _ _ _ _ _ us hl => match us, hl with | [_, _], _ => rfl⟩,
    Queue_lag := ⟨fm15, _, fun_mk lm15 cm15 km15, ⟨am15, im15, km15⟩, (fun_mk (st := s_Queue_lag) lm15 cm15 km15).binds (ps := ["self"]) fun _ _ _ _ _ _ us hl => match us, hl with | [_], _ => rfl⟩,
    Queue_greatest_lag := ⟨fm16, _, fun_mk lm16 cm16 km16, ⟨am16, im16, km16⟩, (fun_mk (st := s_Queue_greatest_lag) lm16 cm16 km16).binds (ps := ["self"]) fun _ _ _ _ _ _ us hl => match us, hl with | [_], _ => rfl⟩,
    Queue_arrival_bound := ⟨fm17, _, fun_mk lm17 cm17 km17, ⟨am17, im17, km17⟩, (fun_mk (st := s_Queue_arrival_bound) lm17 cm17 km17).binds (ps := ["self"]) fun _ _ _ _ _ _ us hl => match us, hl with | [_], _ => rfl⟩,
    OutOfOrder___init__ := ⟨fm18, _, fun_mk lm18 cm18 km18, ⟨am18, im18, km18⟩, (fun_mk (st := s_OutOfOrder___init__) lm18 cm18 km18).binds (ps := ["self", "version", "bound"]) fun _ _ _ _ _ _ us hl => match us, hl with | [_, _, _], _ => rfl⟩,
    Queue_arrive := ⟨fm19, _, fun_mk lm19 cm19 km19, ⟨am19, im19, km19⟩, (fun_mk (st := s_Queue_arrive) lm19 cm19 km19).binds (ps := ["self", "low", "high"]) fun _ _ _ _ _ _ us hl => match us, hl with | [_, _, _], _ => rfl⟩,
    Queue_push_range := ⟨fm20, _, fun_mk lm20 cm20 km20, ⟨am20, im20, km20⟩, (fun_mk (st := s_Queue_push_range) lm20 cm20 km20).binds (ps := ["self", "low", "high"]) fun _ _ _ _ _ _ us hl => match us, hl with | [_, _, _], _ => rfl⟩,
    Queue_arrived := ⟨fm21, _, fun_mk lm21 cm21 km21, ⟨am21, im21, km21⟩, (fun_mk (st := s_Queue_arrived) lm21 cm21 km21).binds (ps := ["self", "version"]) fun _ _ _ _ _ _ us hl => match us, hl with | [_, _], _ => rfl⟩,
    Queue_push := ⟨fm22, _, fun_mk lm22 cm22 km22, ⟨am22, im22, km22⟩, (fun_mk (st := s_Queue_push) lm22 cm22 km22).binds (ps := ["self", "version"]) fun _ _ _ _ _ _ us hl => match us, hl with | [_, _], _ => rfl⟩,
    Queue_advance := ⟨fm23, _, fun_mk lm23 cm23 km23, ⟨am23, im23, km23⟩, (fun_mk (st := s_Queue_advance) lm23 cm23 km23).binds (ps := ["self", "version"]) fun _ _ _ _ _ _ us hl => match us, hl with | [_, _], _ => rfl⟩,
    NotRemembered___init__ := ⟨fm24, _, fun_mk lm24 cm24 km24, ⟨am24, im24, km24⟩, (fun_mk (st := s_NotRemembered___init__) lm24 cm24 km24).binds (ps := ["self", "version"]) fun _ _ _ _ _ _ us hl => match us, hl with | [_, _], _ => rfl⟩,
    Queue_forecast := ⟨fm25, _, fun_mk lm25 cm25 km25, ⟨am25, im25, km25⟩, (fun_mk (st := s_Queue_forecast) lm25 cm25 km25).binds (ps := ["self", "count"]) fun _ _ _ _ _ _ us hl => match us, hl with | [_, _], _ => rfl⟩,
    Queue_copy := ⟨fm26, _, fun_mk lm26 cm26 km26, ⟨am26, im26, km26⟩, (fun_mk (st := s_Queue_copy) lm26 cm26 km26).binds (ps := ["self"]) fun _ _ _ _ _ _ us hl => match us, hl with | [_], _ => rfl⟩,
    InvalidVersion := C_InvalidVersion,
    InvalidVersion_g := PySem.W.mg_of X G g_InvalidVersion,
    InvalidVersion_e := ⟨PySem.W.mg_of X G g_InvalidVersion, xc_InvalidVersion, kp_InvalidVersion, sb_InvalidVersion, ty_InvalidVersion, dd_InvalidVersion⟩,
    InvalidVersion_x := ⟨xg_InvalidVersion, xk_InvalidVersion, sb_InvalidVersion, dd_InvalidVersion, xa_InvalidVersion, xn, xt, xm_InvalidVersion⟩,
    InvalidNumber := C_InvalidNumber,
    InvalidNumber_g := PySem.W.mg_of X G g_InvalidNumber,
    InvalidNumber_e := ⟨PySem.W.mg_of X G g_InvalidNumber, xc_InvalidNumber, kp_InvalidNumber, sb_InvalidNumber, ty_InvalidNumber, dd_InvalidNumber⟩,
    InvalidNumber_x := ⟨xg_InvalidNumber, xk_InvalidNumber, sb_InvalidNumber, dd_InvalidNumber, xa_InvalidNumber, xn, xt, xm_InvalidNumber⟩,
    InvalidCapacity := C_InvalidCapacity,
    InvalidCapacity_g := PySem.W.mg_of X G g_InvalidCapacity,
    InvalidCapacity_e := ⟨PySem.W.mg_of X G g_InvalidCapacity, xc_InvalidCapacity, kp_InvalidCapacity, sb_InvalidCapacity, ty_InvalidCapacity, dd_InvalidCapacity⟩,
    InvalidCapacity_x := ⟨xg_InvalidCapacity, xk_InvalidCapacity, sb_InvalidCapacity, dd_InvalidCapacity, xa_InvalidCapacity, xn, xt, xm_InvalidCapacity⟩,
    OutOfOrder := C_OutOfOrder,
    OutOfOrder_g := PySem.W.mg_of X G g_OutOfOrder,
    NotRemembered := C_NotRemembered,
    NotRemembered_g := PySem.W.mg_of X G g_NotRemembered,
    NotRemembered_x := ⟨xg_NotRemembered, xk_NotRemembered, sb_NotRemembered, dd_NotRemembered, xa_NotRemembered, xn, xt, xm_NotRemembered⟩,
    SamplingError := C_SamplingError,
    SamplingError_g := PySem.W.mg_of X G g_SamplingError,
    OutOfOrder_f := ⟨xg_OutOfOrder, xk_OutOfOrder, sb_OutOfOrder, dd_OutOfOrder⟩,
    OutOfOrder_o := ⟨makes_of PySem.F.excBase_ValueError, inits_of PySem.F.excBase_ValueError, PySem.F.store_ValueError, oi_OutOfOrder, ov_OutOfOrder, dd_OutOfOrder, osa_OutOfOrder, sb_OutOfOrder, ty_OutOfOrder, kp_OutOfOrder⟩,
    OutOfOrder_nf_version := nf_OutOfOrder_version,
    OutOfOrder_nf_bound := nf_OutOfOrder_bound,
    NotRemembered_o := ⟨ke_makes, ke_inits, store_KeyError, oi_NotRemembered, ov_NotRemembered, dd_NotRemembered, osa_NotRemembered, sb_NotRemembered, ty_NotRemembered, kp_NotRemembered⟩,
    NotRemembered_nf_version := nf_NotRemembered_version,
    SamplingError_ga := oga_SamplingError,
    SamplingError_rd := ord_SamplingError,
    SamplingError_vi := ovi_SamplingError,
    KeyError_vi := ovi_KeyError,
    m_OutOfOrder_OutOfOrder := PySem.W.exm_ref sb_OutOfOrder dd_OutOfOrder ty_OutOfOrder su_OutOfOrder_OutOfOrder,
    m_InvalidCapacity_OutOfOrder := PySem.W.exm_ref sb_OutOfOrder dd_OutOfOrder ty_OutOfOrder su_InvalidCapacity_OutOfOrder,
    m_InvalidCapacity_SamplingError := PySem.W.exm_ref sb_SamplingError dd_SamplingError ty_SamplingError su_InvalidCapacity_SamplingError,
    m_InvalidNumber_OutOfOrder := PySem.W.exm_ref sb_OutOfOrder dd_OutOfOrder ty_OutOfOrder su_InvalidNumber_OutOfOrder,
    m_InvalidNumber_SamplingError := PySem.W.exm_ref sb_SamplingError dd_SamplingError ty_SamplingError su_InvalidNumber_SamplingError,
    m_InvalidVersion_OutOfOrder := PySem.W.exm_ref sb_OutOfOrder dd_OutOfOrder ty_OutOfOrder su_InvalidVersion_OutOfOrder,
    m_InvalidVersion_SamplingError := PySem.W.exm_ref sb_SamplingError dd_SamplingError ty_SamplingError su_InvalidVersion_SamplingError,
    i_InvalidCapacity_InvalidCapacity := kit_self,
    i_InvalidCapacity_InvalidNumber := kit_ref dd_InvalidNumber ty_InvalidNumber su_InvalidCapacity_InvalidNumber nq_InvalidCapacity_InvalidNumber,
    i_InvalidCapacity_InvalidVersion := kit_ref dd_InvalidVersion ty_InvalidVersion su_InvalidCapacity_InvalidVersion nq_InvalidCapacity_InvalidVersion,
    i_InvalidNumber_InvalidCapacity := kit_ref dd_InvalidCapacity ty_InvalidCapacity su_InvalidNumber_InvalidCapacity nq_InvalidNumber_InvalidCapacity,
    i_InvalidNumber_InvalidNumber := kit_self,
    i_InvalidNumber_InvalidVersion := kit_ref dd_InvalidVersion ty_InvalidVersion su_InvalidNumber_InvalidVersion nq_InvalidNumber_InvalidVersion,
    i_InvalidVersion_InvalidCapacity := kit_ref dd_InvalidCapacity ty_InvalidCapacity su_InvalidVersion_InvalidCapacity nq_InvalidVersion_InvalidCapacity,
    i_InvalidVersion_InvalidNumber := kit_ref dd_InvalidNumber ty_InvalidNumber su_InvalidVersion_InvalidNumber nq_InvalidVersion_InvalidNumber,
    i_InvalidVersion_InvalidVersion := kit_self,
    LEAST_CAPACITY_g := ⟨t_LEAST_CAPACITY, PySem.W.mg_of X G q_LEAST_CAPACITY⟩,
    MOST_CAPACITY_g := ⟨t_MOST_CAPACITY, PySem.W.mg_of X G q_MOST_CAPACITY⟩,
    Queue_hd := hd_Queue,
    Queue_ty := ty_Queue,
    Queue_nt_NoneType := nt_Queue_NoneType,
    Queue_nt_bool := nt_Queue_bool,
    Queue_nt_int := nt_Queue_int,
    Queue_nt_str := nt_Queue_str,
    Queue_nt_list := nt_Queue_list,
    Queue_nt_tuple := nt_Queue_tuple,
    Queue_nt_dict := nt_Queue_dict,
    Queue_ne_NotRemembered := su_NotRemembered_Queue,
    Queue_dq_NotRemembered := nq_NotRemembered_Queue,
    n_KeyError := PySem.W.mg_none_of X G z_KeyError,
    n_ValueError := PySem.W.mg_none_of X G z_ValueError,
    n_abs := PySem.W.mg_none_of X G z_abs,
    n_all := PySem.W.mg_none_of X G z_all,
    n_any := PySem.W.mg_none_of X G z_any,
    n_bool := PySem.W.mg_none_of X G z_bool,
    n_divmod := PySem.W.mg_none_of X G z_divmod,
    n_int := PySem.W.mg_none_of X G z_int,
    n_isinstance := PySem.W.mg_none_of X G z_isinstance,
    n_len := PySem.W.mg_none_of X G z_len,
    n_list := PySem.W.mg_none_of X G z_list,
    n_max := PySem.W.mg_none_of X G z_max,
    n_min := PySem.W.mg_none_of X G z_min,
    n_range := PySem.W.mg_none_of X G z_range,
    n_repr := PySem.W.mg_none_of X G z_repr,
    n_sorted := PySem.W.mg_none_of X G z_sorted,
    n_str := PySem.W.mg_none_of X G z_str,
    n_tuple := PySem.W.mg_none_of X G z_tuple }
  law_end T.law hfa (fun us hl => match us, hl with | [_], _ => rfl) fun base => (ok_law T).atEnd fun hs hl _ _ q => law_ok T hs hl q
end L2.G
open PySem PySem.W PyProof.Rows
set_option maxRecDepth 100000 in
set_option maxHeartbeats 0 in
theorem PySem.Challenge.cw_sampledversions_k28_refused_copies_equal_holds : PySem.Challenge.rw_sampledversions_k28_refused_copies_equal.Holds := by
  w_on; o_law; k_head; (case hw => w_witness2)
  k_fill
  refine L2.G.walk_end (l := PySem.Challenge.rw_sampledversions_k28_refused_copies_equal) (n := 63) (k := 14) (x := "_law_script") (sp := fun w => L2.G.sp_end _) rfl (by decide) rfl ⟨rfl, by decide, by decide⟩ (fun w h Y => PySem.W.kIn_of Y) ?F (fun w H a ns hl hb hO hS => ⟨a, ns, rfl, hS, hl, fun _ => rfl⟩)
  case F =>
    intro w mg fa h KX G hmg
    refine' L2.G.fin KX G hmg ?a0 ?l0 ?c0 ?k0 ?a1 ?l1 ?c1 ?k1 ?a2 ?l2 ?c2 ?k2 ?a3 ?l3 ?c3 ?k3 ?a4 ?l4 ?c4 ?k4 ?a5 ?l5 ?c5 ?k5 ?a6 ?l6 ?c6 ?k6 ?a7 ?l7 ?c7 ?k7 ?a8 ?l8 ?c8 ?k8 ?a9 ?l9 ?c9 ?k9 ?a10 ?l10 ?c10 ?k10 ?a11 ?l11 ?c11 ?k11 ?a12 ?l12 ?c12 ?k12 ?a13 ?l13 ?c13 ?k13 ?a14 ?l14 ?c14 ?k14 ?a15 ?l15 ?c15 ?k15 ?a16 ?l16 ?c16 ?k16 ?a17 ?l17 ?c17 ?k17 ?a18 ?l18 ?c18 ?k18 ?a19 ?l19 ?c19 ?k19 ?a20 ?l20 ?c20 ?k20 ?a21 ?l21 ?c21 ?k21 ?a22 ?l22 ?c22 ?k22 ?a23 ?l23 ?c23 ?k23 ?a24 ?l24 ?c24 ?k24 ?a25 ?l25 ?c25 ?k25 ?a26 ?l26 ?c26 ?k26 ?a27 ?l27 ?c27 ?k27 ?g_Queue ?pg_Queue ?hd_Queue ?po_Queue ?sa_Queue ?mk_Queue ?kc_Queue ?ha_Queue ?xn0 ?xt0 ?xm0_Queue ?me_Queue ?ne_Queue ?ob_Queue ?na_Queue_size ?na_Queue_first ?na_Queue_mark ?na_Queue_latest ?na_Queue_kept ?na_Queue_most_lag ?na_Queue_calls ?g_Arrivals ?pg_Arrivals ?hd_Arrivals ?po_Arrivals ?sa_Arrivals ?mk_Arrivals ?kc_Arrivals ?na_Arrivals_mark ?na_Arrivals_waited ?na_Arrivals_low ?na_Arrivals_high ?g_OutOfOrder ?g_NotRemembered ?am0 ?im0 ?lm0 ?cm0 ?km0 ?am1 ?im1 ?lm1 ?cm1 ?km1 ?am2 ?im2 ?lm2 ?cm2 ?km2 ?am3 ?im3 ?lm3 ?cm3 ?km3 ?am4 ?im4 ?lm4 ?cm4 ?km4 ?kdm4_0 ?am5 ?im5 ?lm5 ?cm5 ?km5 ?am6 ?im6 ?lm6 ?cm6 ?km6 ?am7 ?im7 ?lm7 ?cm7 ?km7 ?am8 ?im8 ?lm8 ?cm8 ?km8 ?am9 ?im9 ?lm9 ?cm9 ?km9 ?am10 ?im10 ?lm10 ?cm10 ?km10 ?am11 ?im11 ?lm11 ?cm11 ?km11 ?am12 ?im12 ?lm12 ?cm12 ?km12 ?am13 ?im13 ?lm13 ?cm13 ?km13 ?am14 ?im14 ?lm14 ?cm14 ?km14 ?am15 ?im15 ?lm15 ?cm15 ?km15 ?am16 ?im16 ?lm16 ?cm16 ?km16 ?am17 ?im17 ?lm17 ?cm17 ?km17 ?am18 ?im18 ?lm18 ?cm18 ?km18 ?am19 ?im19 ?lm19 ?cm19 ?km19 ?am20 ?im20 ?lm20 ?cm20 ?km20 ?am21 ?im21 ?lm21 ?cm21 ?km21 ?am22 ?im22 ?lm22 ?cm22 ?km22 ?am23 ?im23 ?lm23 ?cm23 ?km23 ?am24 ?im24 ?lm24 ?cm24 ?km24 ?am25 ?im25 ?lm25 ?cm25 ?km25 ?am26 ?im26 ?lm26 ?cm26 ?km26 ?g_InvalidVersion ?sb_InvalidVersion ?ty_InvalidVersion ?dd_InvalidVersion ?xc_InvalidVersion ?kp_InvalidVersion ?xg_InvalidVersion ?xk_InvalidVersion ?xa_InvalidVersion ?xn ?xt ?xm_InvalidVersion ?g_InvalidNumber ?sb_InvalidNumber ?ty_InvalidNumber ?dd_InvalidNumber ?xc_InvalidNumber ?kp_InvalidNumber ?xg_InvalidNumber ?xk_InvalidNumber ?xa_InvalidNumber ?xm_InvalidNumber ?g_InvalidCapacity ?sb_InvalidCapacity ?ty_InvalidCapacity ?dd_InvalidCapacity ?xc_InvalidCapacity ?kp_InvalidCapacity ?xg_InvalidCapacity ?xk_InvalidCapacity ?xa_InvalidCapacity ?xm_InvalidCapacity ?sb_NotRemembered ?ty_NotRemembered ?dd_NotRemembered ?xg_NotRemembered ?xk_NotRemembered ?xa_NotRemembered ?xm_NotRemembered ?g_SamplingError ?sb_OutOfOrder ?ty_OutOfOrder ?dd_OutOfOrder ?xg_OutOfOrder ?xk_OutOfOrder ?oi_OutOfOrder ?ov_OutOfOrder ?osa_OutOfOrder ?kp_OutOfOrder ?nf_OutOfOrder_version ?nf_OutOfOrder_bound ?oi_NotRemembered ?ov_NotRemembered ?osa_NotRemembered ?kp_NotRemembered ?nf_NotRemembered_version ?oga_SamplingError ?ord_SamplingError ?ovi_SamplingError ?ovi_KeyError ?su_OutOfOrder_OutOfOrder ?su_InvalidCapacity_OutOfOrder ?sb_SamplingError ?ty_SamplingError ?dd_SamplingError ?su_InvalidCapacity_SamplingError ?su_InvalidNumber_OutOfOrder ?su_InvalidNumber_SamplingError ?su_InvalidVersion_OutOfOrder ?su_InvalidVersion_SamplingError ?su_InvalidCapacity_InvalidNumber ?nq_InvalidCapacity_InvalidNumber ?su_InvalidCapacity_InvalidVersion ?nq_InvalidCapacity_InvalidVersion ?su_InvalidNumber_InvalidCapacity ?nq_InvalidNumber_InvalidCapacity ?su_InvalidNumber_InvalidVersion ?nq_InvalidNumber_InvalidVersion ?su_InvalidVersion_InvalidCapacity ?nq_InvalidVersion_InvalidCapacity ?su_InvalidVersion_InvalidNumber ?nq_InvalidVersion_InvalidNumber ?q_LEAST_CAPACITY ?q_MOST_CAPACITY ?ty_Queue ?nt_Queue_NoneType ?nt_Queue_bool ?nt_Queue_int ?nt_Queue_str ?nt_Queue_list ?nt_Queue_tuple ?nt_Queue_dict ?su_NotRemembered_Queue ?nq_NotRemembered_Queue ?z_KeyError ?z_ValueError ?z_abs ?z_all ?z_any ?z_bool ?z_divmod ?z_int ?z_isinstance ?z_len ?z_list ?z_max ?z_min ?z_range ?z_repr ?z_sorted ?z_str ?z_tuple
    (case a0 => k_is)
    (case l0 => k_is)
    (case c0 => k_is)
    (case k0 => k_is)
    (case a1 => k_is)
    (case l1 => k_is)
    (case c1 => k_is)
    (case k1 => k_is)
    (case a2 => k_is)
    (case l2 => k_is)
    (case c2 => k_is)
    (case k2 => k_is)
    (case a3 => k_is)
    (case l3 => k_is)
    (case c3 => k_is)
    (case k3 => k_is)
    (case a4 => k_is)
    (case l4 => k_is)
    (case c4 => k_is)
    (case k4 => k_is)
    (case a5 => k_is)
    (case l5 => k_is)
    (case c5 => k_is)
    (case k5 => k_is)
    (case a6 => k_is)
    (case l6 => k_is)
    (case c6 => k_is)
    (case k6 => k_is)
    (case a7 => k_is)
    (case l7 => k_is)
    (case c7 => k_is)
    (case k7 => k_is)
    (case a8 => k_is)
    (case l8 => k_is)
    (case c8 => k_is)
    (case k8 => k_is)
    (case a9 => k_is)
    (case l9 => k_is)
    (case c9 => k_is)
    (case k9 => k_is)
    (case a10 => k_is)
    (case l10 => k_is)
    (case c10 => k_is)
    (case k10 => k_is)
    (case a11 => k_is)
    (case l11 => k_is)
    (case c11 => k_is)
    (case k11 => k_is)
    (case a12 => k_is)
    (case l12 => k_is)
    (case c12 => k_is)
    (case k12 => k_is)
    (case a13 => k_is)
    (case l13 => k_is)
    (case c13 => k_is)
    (case k13 => k_is)
    (case a14 => k_is)
    (case l14 => k_is)
    (case c14 => k_is)
    (case k14 => k_is)
    (case a15 => k_is)
    (case l15 => k_is)
    (case c15 => k_is)
    (case k15 => k_is)
    (case a16 => k_is)
    (case l16 => k_is)
    (case c16 => k_is)
    (case k16 => k_is)
    (case a17 => k_is)
    (case l17 => k_is)
    (case c17 => k_is)
    (case k17 => k_is)
    (case a18 => k_is)
    (case l18 => k_is)
    (case c18 => k_is)
    (case k18 => k_is)
    (case a19 => k_is)
    (case l19 => k_is)
    (case c19 => k_is)
    (case k19 => k_is)
    (case a20 => k_is)
    (case l20 => k_is)
    (case c20 => k_is)
    (case k20 => k_is)
    (case a21 => k_is)
    (case l21 => k_is)
    (case c21 => k_is)
    (case k21 => k_is)
    (case a22 => k_is)
    (case l22 => k_is)
    (case c22 => k_is)
    (case k22 => k_is)
    (case a23 => k_is)
    (case l23 => k_is)
    (case c23 => k_is)
    (case k23 => k_is)
    (case a24 => k_is)
    (case l24 => k_is)
    (case c24 => k_is)
    (case k24 => k_is)
    (case a25 => k_is)
    (case l25 => k_is)
    (case c25 => k_is)
    (case k25 => k_is)
    (case a26 => k_is)
    (case l26 => k_is)
    (case c26 => k_is)
    (case k26 => k_is)
    (case a27 => k_is)
    (case l27 => k_is)
    (case c27 => k_is)
    (case k27 => k_is)
    (case g_Queue => k_is)
    (case pg_Queue => k_is)
    (case hd_Queue => k_is)
    (case po_Queue => k_is)
    (case sa_Queue => k_is)
    (case mk_Queue => k_is)
    (case kc_Queue => k_is)
    (case ha_Queue => k_is)
    (case xn0 => k_is)
    (case xt0 => k_is)
    (case xm0_Queue => k_is)
    (case me_Queue => first | rfl | k_is)
    (case ne_Queue => k_is)
    (case ob_Queue => k_is)
    (case na_Queue_size => k_is)
    (case na_Queue_first => k_is)
    (case na_Queue_mark => k_is)
    (case na_Queue_latest => k_is)
    (case na_Queue_kept => k_is)
    (case na_Queue_most_lag => k_is)
    (case na_Queue_calls => k_is)
    (case g_Arrivals => k_is)
    (case pg_Arrivals => k_is)
    (case hd_Arrivals => k_is)
    (case po_Arrivals => k_is)
    (case sa_Arrivals => k_is)
    (case mk_Arrivals => k_is)
    (case kc_Arrivals => k_is)
    (case na_Arrivals_mark => k_is)
    (case na_Arrivals_waited => k_is)
    (case na_Arrivals_low => k_is)
    (case na_Arrivals_high => k_is)
    (case g_OutOfOrder => k_is)
    (case g_NotRemembered => k_is)
    (case am0 => k_is)
    (case im0 => k_is)
    (case lm0 => k_is)
    (case cm0 => k_is)
    (case km0 => k_is)
    (case am1 => k_is)
    (case im1 => k_is)
    (case lm1 => k_is)
    (case cm1 => k_is)
    (case km1 => k_is)
    (case am2 => k_is)
    (case im2 => k_is)
    (case lm2 => k_is)
    (case cm2 => k_is)
    (case km2 => k_is)
    (case am3 => k_is)
    (case im3 => k_is)
    (case lm3 => k_is)
    (case cm3 => k_is)
    (case km3 => k_is)
    (case am4 => k_is)
    (case im4 => k_is)
    (case lm4 => k_is)
    (case cm4 => k_is)
    (case km4 => k_is)
    (case kdm4_0 => k_is)
    (case am5 => k_is)
    (case im5 => k_is)
    (case lm5 => k_is)
    (case cm5 => k_is)
    (case km5 => k_is)
    (case am6 => k_is)
    (case im6 => k_is)
    (case lm6 => k_is)
    (case cm6 => k_is)
    (case km6 => k_is)
    (case am7 => k_is)
    (case im7 => k_is)
    (case lm7 => k_is)
    (case cm7 => k_is)
    (case km7 => k_is)
    (case am8 => k_is)
    (case im8 => k_is)
    (case lm8 => k_is)
    (case cm8 => k_is)
    (case km8 => k_is)
    (case am9 => k_is)
    (case im9 => k_is)
    (case lm9 => k_is)
    (case cm9 => k_is)
    (case km9 => k_is)
    (case am10 => k_is)
    (case im10 => k_is)
    (case lm10 => k_is)
    (case cm10 => k_is)
    (case km10 => k_is)
    (case am11 => k_is)
    (case im11 => k_is)
    (case lm11 => k_is)
    (case cm11 => k_is)
    (case km11 => k_is)
    (case am12 => k_is)
    (case im12 => k_is)
    (case lm12 => k_is)
    (case cm12 => k_is)
    (case km12 => k_is)
    (case am13 => k_is)
    (case im13 => k_is)
    (case lm13 => k_is)
    (case cm13 => k_is)
    (case km13 => k_is)
    (case am14 => k_is)
    (case im14 => k_is)
    (case lm14 => k_is)
    (case cm14 => k_is)
    (case km14 => k_is)
    (case am15 => k_is)
    (case im15 => k_is)
    (case lm15 => k_is)
    (case cm15 => k_is)
    (case km15 => k_is)
    (case am16 => k_is)
    (case im16 => k_is)
    (case lm16 => k_is)
    (case cm16 => k_is)
    (case km16 => k_is)
    (case am17 => k_is)
    (case im17 => k_is)
    (case lm17 => k_is)
    (case cm17 => k_is)
    (case km17 => k_is)
    (case am18 => k_is)
    (case im18 => k_is)
    (case lm18 => k_is)
    (case cm18 => k_is)
    (case km18 => k_is)
    (case am19 => k_is)
    (case im19 => k_is)
    (case lm19 => k_is)
    (case cm19 => k_is)
    (case km19 => k_is)
    (case am20 => k_is)
    (case im20 => k_is)
    (case lm20 => k_is)
    (case cm20 => k_is)
    (case km20 => k_is)
    (case am21 => k_is)
    (case im21 => k_is)
    (case lm21 => k_is)
    (case cm21 => k_is)
    (case km21 => k_is)
    (case am22 => k_is)
    (case im22 => k_is)
    (case lm22 => k_is)
    (case cm22 => k_is)
    (case km22 => k_is)
    (case am23 => k_is)
    (case im23 => k_is)
    (case lm23 => k_is)
    (case cm23 => k_is)
    (case km23 => k_is)
    (case am24 => k_is)
    (case im24 => k_is)
    (case lm24 => k_is)
    (case cm24 => k_is)
    (case km24 => k_is)
    (case am25 => k_is)
    (case im25 => k_is)
    (case lm25 => k_is)
    (case cm25 => k_is)
    (case km25 => k_is)
    (case am26 => k_is)
    (case im26 => k_is)
    (case lm26 => k_is)
    (case cm26 => k_is)
    (case km26 => k_is)
    (case g_InvalidVersion => k_is)
    (case sb_InvalidVersion => k_is)
    (case ty_InvalidVersion => k_is)
    (case dd_InvalidVersion => k_is)
    (case xc_InvalidVersion => k_exc)
    (case kp_InvalidVersion => k_is)
    (case xg_InvalidVersion => k_is)
    (case xk_InvalidVersion => k_is)
    (case xa_InvalidVersion => k_is)
    (case xn => k_is)
    (case xt => k_is)
    (case xm_InvalidVersion => k_is)
    (case g_InvalidNumber => k_is)
    (case sb_InvalidNumber => k_is)
    (case ty_InvalidNumber => k_is)
    (case dd_InvalidNumber => k_is)
    (case xc_InvalidNumber => k_exc)
    (case kp_InvalidNumber => k_is)
    (case xg_InvalidNumber => k_is)
    (case xk_InvalidNumber => k_is)
    (case xa_InvalidNumber => k_is)
    (case xm_InvalidNumber => k_is)
    (case g_InvalidCapacity => k_is)
    (case sb_InvalidCapacity => k_is)
    (case ty_InvalidCapacity => k_is)
    (case dd_InvalidCapacity => k_is)
    (case xc_InvalidCapacity => k_exc)
    (case kp_InvalidCapacity => k_is)
    (case xg_InvalidCapacity => k_is)
    (case xk_InvalidCapacity => k_is)
    (case xa_InvalidCapacity => k_is)
    (case xm_InvalidCapacity => k_is)
    (case sb_NotRemembered => k_is)
    (case ty_NotRemembered => k_is)
    (case dd_NotRemembered => k_is)
    (case xg_NotRemembered => k_is)
    (case xk_NotRemembered => k_is)
    (case xa_NotRemembered => k_is)
    (case xm_NotRemembered => k_is)
    (case g_SamplingError => k_is)
    (case sb_OutOfOrder => k_is)
    (case ty_OutOfOrder => k_is)
    (case dd_OutOfOrder => k_is)
    (case xg_OutOfOrder => k_is)
    (case xk_OutOfOrder => k_is)
    (case oi_OutOfOrder => kx_is)
    (case ov_OutOfOrder => kx_is)
    (case osa_OutOfOrder => k_is)
    (case kp_OutOfOrder => k_is)
    (case nf_OutOfOrder_version => k_is)
    (case nf_OutOfOrder_bound => k_is)
    (case oi_NotRemembered => kx_is)
    (case ov_NotRemembered => kx_is)
    (case osa_NotRemembered => k_is)
    (case kp_NotRemembered => k_is)
    (case nf_NotRemembered_version => k_is)
    (case oga_SamplingError => k_is)
    (case ord_SamplingError => k_is)
    (case ovi_SamplingError => k_is)
    (case ovi_KeyError => k_is)
    (case su_OutOfOrder_OutOfOrder => first | rfl | k_is)
    (case su_InvalidCapacity_OutOfOrder => k_is)
    (case sb_SamplingError => k_is)
    (case ty_SamplingError => k_is)
    (case dd_SamplingError => k_is)
    (case su_InvalidCapacity_SamplingError => k_is)
    (case su_InvalidNumber_OutOfOrder => k_is)
    (case su_InvalidNumber_SamplingError => k_is)
    (case su_InvalidVersion_OutOfOrder => k_is)
    (case su_InvalidVersion_SamplingError => k_is)
    (case su_InvalidCapacity_InvalidNumber => k_is)
    (case nq_InvalidCapacity_InvalidNumber => rfl)
    (case su_InvalidCapacity_InvalidVersion => k_is)
    (case nq_InvalidCapacity_InvalidVersion => rfl)
    (case su_InvalidNumber_InvalidCapacity => k_is)
    (case nq_InvalidNumber_InvalidCapacity => rfl)
    (case su_InvalidNumber_InvalidVersion => k_is)
    (case nq_InvalidNumber_InvalidVersion => rfl)
    (case su_InvalidVersion_InvalidCapacity => k_is)
    (case nq_InvalidVersion_InvalidCapacity => rfl)
    (case su_InvalidVersion_InvalidNumber => k_is)
    (case nq_InvalidVersion_InvalidNumber => rfl)
    (case q_LEAST_CAPACITY => k_is)
    (case q_MOST_CAPACITY => k_is)
    (case ty_Queue => k_is)
    (case nt_Queue_NoneType => k_is)
    (case nt_Queue_bool => k_is)
    (case nt_Queue_int => k_is)
    (case nt_Queue_str => k_is)
    (case nt_Queue_list => k_is)
    (case nt_Queue_tuple => k_is)
    (case nt_Queue_dict => k_is)
    (case su_NotRemembered_Queue => k_is)
    (case nq_NotRemembered_Queue => rfl)
    (case z_KeyError => k_is)
    (case z_ValueError => k_is)
    (case z_abs => k_is)
    (case z_all => k_is)
    (case z_any => k_is)
    (case z_bool => k_is)
    (case z_divmod => k_is)
    (case z_int => k_is)
    (case z_isinstance => k_is)
    (case z_len => k_is)
    (case z_list => k_is)
    (case z_max => k_is)
    (case z_min => k_is)
    (case z_range => k_is)
    (case z_repr => k_is)
    (case z_sorted => k_is)
    (case z_str => k_is)
    (case z_tuple => k_is)

