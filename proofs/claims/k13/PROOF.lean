import PyProof.Rows.All
import Wide.All
import OpenK.AllK
import Wide.FinOn
import HandS.ForMost
import HandS.Exc
import HandS.TryOnly
import HandS.TryMany
import HandS.ExcOwn
import HandS.ExcInit
import HandS.ExcIs
import HandS.Small
import HandS.IsInst
import HandS.WideBits
import HandS.FStr
import HandS.WordsExc
import HandS.RaiseMore
import HandS.EndBits
import HandS.Comp
import HandS.List
import HandS.Iter
import PyProof.ReprRoads
import PyProof.ReprBulk
import HandS.Style
import PyProof.SumWalkG
import HandS.Defaults
import HandS.MakeKwOnly
import HandS.Walk
import HandS.TupLe
import HandS.SortInts
import HandS.OwnEq
import HandS.Conv
import HandS.TupAny
import HandS.SetFor
import HandS.TupMul
import HandS.Codes
import HandS.SortKw
import HandS.ExcValue
import KE.SortKeyHeap
import KE.KRevSl
import HandS.DictSub
import PyProof.InstNe
import HandS.Deep
import HandS.More
import HandS.SetKeys
import HandS.Strs
import PyProof.Rows.CountFlat
import KE.DataMinKey
import HandS.DictComp
import HandS.ListItems
import HandS.SetBool
import HandS.Zip
import PyProof.StrLawsIn
import HandS.Finally
import KE.KUnpackStar
import HandS.Text
import KE.IntTextLaws
import KE.IntTextText
import KE.KIntText
import HandS.ExcField
import KE.KExcInit
import PyProof.ExcBaseAll.LookupError
import PyProof.ExcBaseAll.RuntimeError
import PyProof.ExcBaseAll.ArithmeticError
import PyProof.ExcBaseAll.ValueError
import KE.KExcPX
import KE.KIndexOf
import PyProof.StrLawsChain
import PyProof.StrLawsTight
import PyProof.EqKinds
import HandS.Lambda
import KE.KNestM
import PySem.Challenge.RW_sampledversions_k13_whole_strongest
set_option Elab.async false
set_option linter.all false
set_option maxRecDepth 100000
set_option maxHeartbeats 4000000
namespace L2.G
open PySem PySem.Spec PyProof.Rows
/-! A layer of our own over HandS: weakest preconditions on the expressions themselves, the heap known from below, calls with no repr at work. -/

/-! ## heaps from below -/
def Ex (H H' : Hp) : Prop := ∀ a o, H a = some o → H' a = some o
theorem Ex.refl (H : Hp) : Ex H H := fun _ _ h => h
theorem Ex.trans {H H1 H2 : Hp} (a : Ex H H1) (b : Ex H1 H2) : Ex H H2 := fun x o h => b x o (a x o h)
theorem Ex.free {H H' : Hp} (e : Ex H H') {p : Addr} (h : H' p = none) : H p = none := by
  cases q : H p with
  | none => rfl
  | some o => rw [e p o q] at h; cases h
theorem Ex.new {H H' : Hp} {p : Addr} {o : HO} (e : Ex H H') (h : H' p = none) : Ex H (upd H' p o) := fun a u ha => by
  rw [upd_ne (ne_of_none (e a u ha) h)]
  exact e a u ha
theorem Ex.set {H H' : Hp} (e : Ex H H') (p : Addr) (o : HO) : Ex (upd H p o) (upd H' p o) := fun a u ha => by
  by_cases h : a = p
  · subst h; rw [upd_same] at ha ⊢; exact ha
  · rw [upd_ne h] at ha ⊢; exact e a u ha
theorem Ex.put {H : Hp} {p : Addr} {o : HO} (h : H p = none) : Ex H (upd H p o) := Ex.new (Ex.refl H) h
theorem Ex.rd {H H' : Hp} {a : Addr} {u : HO} (e : Ex H H') (h : Rd H a u) : Rd H' a u := by
  rcases h with h | ⟨o, h⟩
  · exact Or.inl (e a _ h)
  · exact Or.inr ⟨o, e a _ h⟩
theorem Ex.sqL {K : PySem.W.Frag} {H H' : Hp} {a : Addr} {xs : List V} (e : Ex H H') (h : SqL K H a xs) : SqL K H' a xs := by
  rcases h with h | h
  · exact Or.inl (e.rd h)
  · exact Or.inr h
theorem Ex.sqT {K : PySem.W.Frag} {H H' : Hp} {a : Addr} {xs : List V} (e : Ex H H') (h : SqT K H a xs) : SqT K H' a xs := by
  rcases h with h | h
  · exact Or.inl (e.rd h)
  · exact Or.inr h

/-! ## wishes, lifted -/
def up (Q : VK) : VK := fun v H2 => ∃ H', Ex H' H2 ∧ Q v H'
def upB (Q : Bool → Hp → Prop) : Bool → Hp → Prop := fun v H2 => ∃ H', Ex H' H2 ∧ Q v H'
def upA (Q : List V → Hp → Prop) : List V → Hp → Prop := fun v H2 => ∃ H', Ex H' H2 ∧ Q v H'
def upS (Q : St → Hp → Prop) : St → Hp → Prop := fun v H2 => ∃ H', Ex H' H2 ∧ Q v H'
def upE (Q : XK) : XK := fun c d H2 => ∃ H', Ex H' H2 ∧ Q c d H'
def upD (D : Ends) : Ends := { nx := upS D.nx, rt := up D.rt, bk := upS D.bk, ct := upS D.ct }
theorem up.i {Q : VK} {v : V} {H : Hp} (q : Q v H) : up Q v H := ⟨H, Ex.refl H, q⟩
theorem upS.i {Q : St → Hp → Prop} {v : St} {H : Hp} (q : Q v H) : upS Q v H := ⟨H, Ex.refl H, q⟩
theorem upB.i {Q : Bool → Hp → Prop} {v : Bool} {H : Hp} (q : Q v H) : upB Q v H := ⟨H, Ex.refl H, q⟩
theorem upA.i {Q : List V → Hp → Prop} {v : List V} {H : Hp} (q : Q v H) : upA Q v H := ⟨H, Ex.refl H, q⟩

/-! ## weakest preconditions -/
def WE (X : Cx) (e : Expr) (σ : St) (H : Hp) (Q : VK) : Prop :=
  ∀ H1, Ex H H1 → ∀ pins s, Inv X pins σ H1 s → wpAny (model X.prog X.w) X.A (eval e X.env) (EP X pins σ (up Q)) X.xe s
def WT (X : Cx) (e : Expr) (σ : St) (H : Hp) (Q : Bool → Hp → Prop) : Prop :=
  ∀ H1, Ex H H1 → ∀ pins s, Inv X pins σ H1 s → wpAny (model X.prog X.w) X.A (isTrue e X.env (eval e X.env)) (TP X pins σ (upB Q)) X.xe s
def WW (X : Cx) (e : Expr) (σ : St) (H : Hp) (Q : Bool → Hp → Prop) : Prop :=
  ∀ H1, Ex H H1 → ∀ whole pins s, Inv X pins σ H1 s → wpAny (model X.prog X.w) X.A (isTrue e X.env whole) (TP X pins σ (upB Q)) X.xe s
def WA (X : Cx) (es : List Expr) (σ : St) (H : Hp) (Q : List V → Hp → Prop) : Prop :=
  ∀ H1, Ex H H1 → ∀ pos pins s, Inv X pins σ H1 s → wpAny (model X.prog X.w) X.A (spliced (backTo pos (starEach es X.env))) (AP X pins σ (upA Q)) X.xe s
def WS (X : Cx) (st : Stmt) (D : Ends) (σ : St) (H : Hp) : Prop :=
  ∀ H1, Ex H H1 → ∀ pins s, Inv X pins σ H1 s → wpAny (model X.prog X.w) X.A (exec st X.env) (SP X pins (upD D)) X.xe s
def WSs (X : Cx) (st : List Stmt) (D : Ends) (σ : St) (H : Hp) : Prop :=
  ∀ H1, Ex H H1 → ∀ pins s, Inv X pins σ H1 s → wpAny (model X.prog X.w) X.A (execs st X.env) (SP X pins (upD D)) X.xe s
/-- an operation on two values | a call of a value | a method's call | a subscript -/
def WO (X : Cx) (f : Value → Value → Sem Value) (x y : V) (H : Hp) (Q : VK) : Prop :=
  ∀ H1, Ex H H1 → ∀ pins s σ v u, Inv X pins σ H1 s → RelV x v → RelV y u → wpAny (model X.prog X.w) X.A (f v u) (EP X pins σ (up Q)) X.xe s
def WC (X : Cx) (f : Value) (xs : List V) (H : Hp) (Q : VK) : Prop :=
  ∀ H1, Ex H H1 → ∀ pins s σ us, Inv X pins σ H1 s → Vals xs us → wpAny (model X.prog X.w) X.A (call f us) (EP X pins σ (up Q)) X.xe s

section
variable {X : Cx} {e a b c : Expr} {es : List Expr} {st : Stmt} {sts : List Stmt} {σ : St} {H H1 H' : Hp} {Q Q1 : VK} {QB QB1 : Bool → Hp → Prop} {QA QA1 : List V → Hp → Prop} {D : Ends} {x y z v : V} {pos : Pos} {f : Value → Value → Sem Value} {fn : Value} {xs : List V}

/-- the readings that HandS's rules take -/
def tWE (X : Cx) (e : Expr) : TE := fun σ H1 Q1 => ∃ H Q, Ex H H1 ∧ WE X e σ H Q ∧ ∀ v H2, up Q v H2 → Q1 v H2
def tWT (X : Cx) (e : Expr) : TT := fun σ H1 Q1 => ∃ H Q, Ex H H1 ∧ WT X e σ H Q ∧ ∀ v H2, upB Q v H2 → Q1 v H2
def tWW (X : Cx) (e : Expr) : TT := fun σ H1 Q1 => ∃ H Q, Ex H H1 ∧ WW X e σ H Q ∧ ∀ v H2, upB Q v H2 → Q1 v H2
def tWA (X : Cx) (es : List Expr) : TA := fun σ H1 Q1 => ∃ H Q, Ex H H1 ∧ WA X es σ H Q ∧ ∀ v H2, upA Q v H2 → Q1 v H2
structure EndsLe (D D1 : Ends) : Prop where
  nx : ∀ σ H, upS D.nx σ H → D1.nx σ H
  rt : ∀ v H, up D.rt v H → D1.rt v H
  bk : ∀ σ H, upS D.bk σ H → D1.bk σ H
  ct : ∀ σ H, upS D.ct σ H → D1.ct σ H
def tWS (X : Cx) (st : Stmt) : TS := fun D1 σ H1 => ∃ H D, Ex H H1 ∧ WS X st D σ H ∧ EndsLe D D1
def tWSs (X : Cx) (st : List Stmt) : TS := fun D1 σ H1 => ∃ H D, Ex H H1 ∧ WSs X st D σ H ∧ EndsLe D D1
def rWO (X : Cx) (f : Value → Value → Sem Value) : R2 := fun x y H1 Q1 => ∃ H Q, Ex H H1 ∧ WO X f x y H Q ∧ ∀ v H2, up Q v H2 → Q1 v H2
def rWC (X : Cx) (fn : Value) : List V → Hp → VK → Prop := fun xs H1 Q1 => ∃ H Q, Ex H H1 ∧ WC X fn xs H Q ∧ ∀ v H2, up Q v H2 → Q1 v H2

theorem pe_W : PE X e (tWE X e) := ⟨fun pins s σ H1 Q1 I ⟨H, Q, x, w, k⟩ => thn (w H1 x pins s I) fun u s' ⟨v, H2, I2, r, q⟩ => ⟨v, H2, I2, r, k v H2 q⟩⟩
theorem pt_W : PT X e (tWT X e) := ⟨fun pins s σ H1 Q1 I ⟨H, Q, x, w, k⟩ => thn (w H1 x pins s I) fun u s' ⟨H2, I2, q⟩ => ⟨H2, I2, k _ H2 q⟩⟩
theorem pw_W : PW X e (tWW X e) := ⟨fun wh pins s σ H1 Q1 I ⟨H, Q, x, w, k⟩ => thn (w H1 x wh pins s I) fun u s' ⟨H2, I2, q⟩ => ⟨H2, I2, k _ H2 q⟩⟩
theorem pa_W : PA X es (tWA X es) := ⟨fun pos pins s σ H1 Q1 I ⟨H, Q, x, w, k⟩ => thn (w H1 x pos pins s I) fun u s' ⟨v, H2, I2, r, q⟩ => ⟨v, H2, I2, r, k v H2 q⟩⟩
theorem SP.le {X : Cx} {pins : List (Addr × Obj)} {D D1 : Ends} (k : EndsLe D D1) {f : Flow} {s : Shared} (q : SP X pins (upD D) f s) : SP X pins D1 f s := by
  cases f with
  | next => obtain ⟨σ', H', I, q⟩ := q; exact ⟨σ', H', I, k.nx _ _ q⟩
  | brk => obtain ⟨σ', H', I, q⟩ := q; exact ⟨σ', H', I, k.bk _ _ q⟩
  | cont => obtain ⟨σ', H', I, q⟩ := q; exact ⟨σ', H', I, k.ct _ _ q⟩
  | ret u => obtain ⟨v, σ', H', I, r, q⟩ := q; exact ⟨v, σ', H', I, r, k.rt _ _ q⟩
theorem ps_W : PS X st (tWS X st) := ⟨fun pins s σ H1 D1 I ⟨H, D, x, w, k⟩ => thn (w H1 x pins s I) fun u s' q => SP.le k q⟩
theorem pss_W : PSs X sts (tWSs X sts) := ⟨fun pins s σ H1 D1 I ⟨H, D, x, w, k⟩ => thn (w H1 x pins s I) fun u s' q => SP.le k q⟩
theorem op_W : OpR X f (rWO X f) := fun pins s σ H1 x y v u Q1 I rx ry ⟨H, Q, e, w, k⟩ => thn (w H1 e pins s σ v u I rx ry) fun u s' ⟨v, H2, I2, r, q⟩ => ⟨v, H2, I2, r, k v H2 q⟩
theorem call_W : CallR X fn (rWC X fn) := fun pins s σ H1 xs us Q1 I r ⟨H, Q, e, w, k⟩ => thn (w H1 e pins s σ us I r) fun u s' ⟨v, H2, I2, r, q⟩ => ⟨v, H2, I2, r, k v H2 q⟩

theorem WE.of {t : TE} (h : PE X e t) (q : ∀ H1, Ex H H1 → t σ H1 (up Q)) : WE X e σ H Q := fun H1 x pins s I => h.run pins s σ H1 _ I (q H1 x)
theorem WT.of {t : TT} (h : PT X e t) (q : ∀ H1, Ex H H1 → t σ H1 (upB QB)) : WT X e σ H QB := fun H1 x pins s I => h.run pins s σ H1 _ I (q H1 x)
theorem WW.of {t : TT} (h : PW X e t) (q : ∀ H1, Ex H H1 → t σ H1 (upB QB)) : WW X e σ H QB := fun H1 x wh pins s I => h.run wh pins s σ H1 _ I (q H1 x)
theorem WA.of {t : TA} (h : PA X es t) (q : ∀ H1, Ex H H1 → t σ H1 (upA QA)) : WA X es σ H QA := fun H1 x pos pins s I => h.run pos pins s σ H1 _ I (q H1 x)
theorem WS.of {t : TS} (h : PS X st t) (q : ∀ H1, Ex H H1 → t (upD D) σ H1) : WS X st D σ H := fun H1 x pins s I => h.run pins s σ H1 _ I (q H1 x)
theorem WSs.of {t : TS} (h : PSs X sts t) (q : ∀ H1, Ex H H1 → t (upD D) σ H1) : WSs X sts D σ H := fun H1 x pins s I => h.run pins s σ H1 _ I (q H1 x)
theorem WO.of {r : R2} (h : OpR X f r) (q : ∀ H1, Ex H H1 → r x y H1 (up Q)) : WO X f x y H Q := fun H1 e pins s σ v u I rx ry => h pins s σ H1 x y v u _ I rx ry (q H1 e)
theorem WC.of {r : List V → Hp → VK → Prop} (h : CallR X fn r) (q : ∀ H1, Ex H H1 → r xs H1 (up Q)) : WC X fn xs H Q := fun H1 e pins s σ us I rs => h pins s σ H1 xs us _ I rs (q H1 e)

theorem WE.t (w : WE X e σ H Q) (x : Ex H H1) (k : ∀ v H2, up Q v H2 → Q1 v H2) : tWE X e σ H1 Q1 := ⟨H, Q, x, w, k⟩
theorem WT.t (w : WT X e σ H QB) (x : Ex H H1) (k : ∀ v H2, upB QB v H2 → QB1 v H2) : tWT X e σ H1 QB1 := ⟨H, QB, x, w, k⟩
theorem WW.t (w : WW X e σ H QB) (x : Ex H H1) (k : ∀ v H2, upB QB v H2 → QB1 v H2) : tWW X e σ H1 QB1 := ⟨H, QB, x, w, k⟩
theorem WA.t (w : WA X es σ H QA) (x : Ex H H1) (k : ∀ v H2, upA QA v H2 → QA1 v H2) : tWA X es σ H1 QA1 := ⟨H, QA, x, w, k⟩
theorem WO.t (w : WO X f x y H Q) (e : Ex H H1) (k : ∀ v H2, up Q v H2 → Q1 v H2) : rWO X f x y H1 Q1 := ⟨H, Q, e, w, k⟩
theorem WC.t (w : WC X fn xs H Q) (e : Ex H H1) (k : ∀ v H2, up Q v H2 → Q1 v H2) : rWC X fn xs H1 Q1 := ⟨H, Q, e, w, k⟩

theorem up.mono {Q Q' : VK} (k : ∀ v H, Q v H → Q' v H) {v : V} {H : Hp} : up Q v H → up Q' v H := fun ⟨H', x, q⟩ => ⟨H', x, k _ _ q⟩
theorem WE.mono (w : WE X e σ H Q) (k : ∀ v H, Q v H → Q1 v H) : WE X e σ H Q1 := fun H1 x pins s I => thn (w H1 x pins s I) fun u s' ⟨v, H2, I2, r, q⟩ => ⟨v, H2, I2, r, up.mono k q⟩
theorem WE.ex (w : WE X e σ H Q) (x : Ex H H') : WE X e σ H' Q := fun H1 x1 => w H1 (x.trans x1)
/-- what was made on the way is forgotten -/
theorem WE.forget (w : WE X e σ H fun v H1 => ∃ H', Ex H' H1 ∧ Q v H') : WE X e σ H Q := fun H1 x pins s I => thn (w H1 x pins s I) fun u s' ⟨v, H2, I2, r, H3, x3, H4, x4, q⟩ => ⟨v, H2, I2, r, H4, x4.trans x3, q⟩
theorem WSs.le {D1 : Ends} (w : WSs X sts D σ H) (k : EndsLe D (upD D1)) : WSs X sts D1 σ H := fun H1 x pins s I => thn (w H1 x pins s I) fun u s' q => SP.le k q
theorem EndsLe.i {D D1 : Ends} (nx : ∀ σ H, D.nx σ H → D1.nx σ H) (rt : ∀ σ H, D.rt σ H → D1.rt σ H) (bk : ∀ σ H, D.bk σ H → D1.bk σ H) (ct : ∀ σ H, D.ct σ H → D1.ct σ H) : EndsLe D (upD D1) :=
  ⟨fun _ _ ⟨H, x, q⟩ => ⟨H, x, nx _ _ q⟩, fun _ _ ⟨H, x, q⟩ => ⟨H, x, rt _ _ q⟩, fun _ _ ⟨H, x, q⟩ => ⟨H, x, bk _ _ q⟩, fun _ _ ⟨H, x, q⟩ => ⟨H, x, ct _ _ q⟩⟩
theorem EndsLe.rfl {D : Ends} : EndsLe D (upD D) := .i (fun _ _ q => q) (fun _ _ q => q) (fun _ _ q => q) fun _ _ q => q

/-! ## pure: a value, nothing changed -/
def EV (X : Cx) (e : Expr) (σ : St) (H : Hp) (v : V) : Prop := ∀ H1, Ex H H1 → ∀ Q : VK, Q v H1 → WE X e σ H1 Q
def ET (X : Cx) (e : Expr) (σ : St) (H : Hp) (v : Bool) : Prop := ∀ H1, Ex H H1 → ∀ Q : Bool → Hp → Prop, Q v H1 → WT X e σ H1 Q
def EA (X : Cx) (es : List Expr) (σ : St) (H : Hp) (vs : List V) : Prop := ∀ H1, Ex H H1 → ∀ Q : List V → Hp → Prop, Q vs H1 → WA X es σ H1 Q
def EO (X : Cx) (f : Value → Value → Sem Value) (x y : V) (H : Hp) (z : V) : Prop := ∀ H1, Ex H H1 → ∀ Q : VK, Q z H1 → WO X f x y H1 Q
def EC (X : Cx) (fn : Value) (xs : List V) (H : Hp) (z : V) : Prop := ∀ H1, Ex H H1 → ∀ Q : VK, Q z H1 → WC X fn xs H1 Q
/-- a new object -/
def EN (X : Cx) (e : Expr) (σ : St) (H : Hp) (o : HO) : Prop := ∀ H1, Ex H H1 → ∀ Q : VK, (∀ p, H1 p = none → Q (.ref p) (upd H1 p o)) → WE X e σ H1 Q
def CN (X : Cx) (fn : Value) (xs : List V) (H : Hp) (o : HO) : Prop := ∀ H1, Ex H H1 → ∀ Q : VK, (∀ p, H1 p = none → Q (.ref p) (upd H1 p o)) → WC X fn xs H1 Q
theorem EV.we (h : EV X e σ H v) (q : Q v H) : WE X e σ H Q := h H (Ex.refl H) Q q
theorem ET.wt {v : Bool} (h : ET X e σ H v) (q : QB v H) : WT X e σ H QB := h H (Ex.refl H) QB q
theorem EA.wa {vs : List V} (h : EA X es σ H vs) (q : QA vs H) : WA X es σ H QA := h H (Ex.refl H) QA q
theorem EO.wo (h : EO X f x y H z) (q : Q z H) : WO X f x y H Q := h H (Ex.refl H) Q q
theorem EC.wc (h : EC X fn xs H z) (q : Q z H) : WC X fn xs H Q := h H (Ex.refl H) Q q
theorem EN.we {o : HO} (h : EN X e σ H o) (q : ∀ p, H p = none → Q (.ref p) (upd H p o)) : WE X e σ H Q := h H (Ex.refl H) Q q
theorem CN.wc {o : HO} (h : CN X fn xs H o) (q : ∀ p, H p = none → Q (.ref p) (upd H p o)) : WC X fn xs H Q := h H (Ex.refl H) Q q
theorem EV.ex (h : EV X e σ H v) (x : Ex H H') : EV X e σ H' v := fun H1 x1 => h H1 (x.trans x1)
theorem ET.ex {v : Bool} (h : ET X e σ H v) (x : Ex H H') : ET X e σ H' v := fun H1 x1 => h H1 (x.trans x1)
theorem EN.ex {o : HO} (h : EN X e σ H o) (x : Ex H H') : EN X e σ H' o := fun H1 x1 => h H1 (x.trans x1)
theorem EA.ex {vs : List V} (h : EA X es σ H vs) (x : Ex H H') : EA X es σ H' vs := fun H1 x1 => h H1 (x.trans x1)
theorem EO.ex (h : EO X f x y H z) (x0 : Ex H H') : EO X f x y H' z := fun H1 x1 => h H1 (x0.trans x1)
theorem EV.is {w : V} (h : EV X e σ H v) (q : v = w) : EV X e σ H w := q ▸ h
theorem ET.is {v w : Bool} (h : ET X e σ H v) (q : v = w) : ET X e σ H w := q ▸ h
theorem EO.is {w : V} (h : EO X f x y H v) (q : v = w) : EO X f x y H w := q ▸ h
end
section
variable {X : Cx} {e a b c : Expr} {es rest : List Expr} {st : Stmt} {sts : List Stmt} {σ : St} {H H1 H' : Hp} {Q Q1 : VK} {QB QB1 : Bool → Hp → Prop} {QA QA1 : List V → Hp → Prop} {D : Ends} {x y z v w : V} {pos p pos' : Pos} {f : Value → Value → Sem Value} {fn : Value} {xs vs : List V} {k l : Bool}

/-! ## names, constants -/
theorem ev_var {i : Nat} {n : Str} (hN : X.N[i]? = some n) (hv : Vis X.env.scope n) (hs : σ[i]? = some (some v)) (hd : (n == ("__debug__" : Str)) = false := by decide) (hcd : (n == ("__classdict__" : Str)) = false := by decide) : EV X (.Name n pos) σ H v :=
  fun H1 x Q q => .of (pe_var hN hv hd hcd) fun H2 x2 => ⟨v, hs, H1, x2, q⟩
theorem ev_int {i : Int} {j} : EV X (.Constant (.int i) j pos) σ H (.int i) := fun H1 x Q q => .of pe_int fun H2 x2 => ⟨H1, x2, q⟩
theorem ev_bl {i : Bool} {j} : EV X (.Constant (.bool i) j pos) σ H (.bl i) := fun H1 x Q q => .of pe_bl fun H2 x2 => ⟨H1, x2, q⟩
theorem ev_str {i : Str} {j} : EV X (.Constant (.str i) j pos) σ H (.str i) := fun H1 x Q q => .of pe_str fun H2 x2 => ⟨H1, x2, q⟩
theorem ev_bltn {n : Str} {u : Value} (hm : X.mg n = none) (hv : bootBuiltins n = some u) (r : RelV v u) (hg : Gl X n := by rfl) (hn : n ≠ "__name__" := by decide) (hd : (n == ("__debug__" : Str)) = false := by decide) : EV X (.Name n pos) σ H v := fun H1 x Q q => .of (pe_bltn hg hm hv r hn hd) fun H2 x2 => ⟨H1, x2, q⟩

/-! ## operators -/
theorem we_bin {op : Operator} (h : WE X a σ H fun x H1 => WE X b σ H1 fun y H2 => WO X (binaryOp op) x y H2 Q) : WE X (.BinOp a op b pos) σ H Q :=
  .of (pe_op op_W pe_W pe_W) fun H1 x => h.t x fun v H2 ⟨H3, x3, w⟩ => w.t x3 fun u H4 ⟨H5, x5, o⟩ => o.t x5 fun _ _ q => q
theorem ev_bin {op : Operator} (ha : EV X a σ H x) (hb : EV X b σ H y) (ho : EO X (binaryOp op) x y H z) : EV X (.BinOp a op b pos) σ H z := fun H1 e Q q =>
  we_bin ((ha.ex e).we ((hb.ex e).we ((ho.ex e).wo q)))
def UN (X : Cx) (f : Value → Sem Value) (x : V) (H : Hp) (z : V) : Prop := ∀ H1, Ex H H1 → ∀ pins s σ v, Inv X pins σ H1 s → RelV x v → ∀ Q : VK, Q z H1 → wpAny (model X.prog X.w) X.A (f v) (EP X pins σ Q) X.xe s
theorem we_un {op : UnaryOp} (h : WE X a σ H fun x H1 => ∃ z, UN X (unaryOp op) x H1 z ∧ Q z H1) : WE X (.UnaryOp op a pos) σ H Q :=
  .of (pe_un (r := fun x H1 Q1 => ∃ H z, Ex H H1 ∧ UN X (unaryOp op) x H z ∧ Q1 z H1) (fun pins s σ H1 x v Q I rx ⟨H, z, e, h, q⟩ => h H1 e pins s σ v I rx Q q) pe_W) fun H1 x => h.t x fun v H2 ⟨H3, x3, z, h3, q⟩ => ⟨H3, z, x3, h3, H3, x3, q⟩
theorem un_neg {i : Int} : UN X (unaryOp .USub) (.int i) H (.int (-i)) := fun H1 e pins s σ v I rx Q q => L2.un_neg pins s σ H1 _ v Q I rx ⟨i, rfl, q⟩
theorem eo_of {r : R2} (h : OpR X f r) (q : ∀ H1, Ex H H1 → ∀ Q : VK, Q z H1 → r x y H1 Q) : EO X f x y H z := fun H1 e Q k => .of h fun H2 e2 => q H2 (e.trans e2) _ ⟨H1, e2, k⟩
section
variable {i j : Int}
theorem eo_add : EO X (binaryOp .Add) (.int i) (.int j) H (.int (i + j)) := eo_of op_add fun _ _ _ q => ⟨i, j, rfl, rfl, q⟩
theorem eo_sub : EO X (binaryOp .Sub) (.int i) (.int j) H (.int (i - j)) := eo_of op_sub fun _ _ _ q => ⟨i, j, rfl, rfl, q⟩
theorem eo_mul (h : CMul i j) : EO X (binaryOp .Mult) (.int i) (.int j) H (.int (i * j)) := eo_of op_mul fun _ _ _ q => ⟨i, j, rfl, rfl, h, q⟩
theorem eo_mulX (h : CMulX i j) : EO X (binaryOp .Mult) (.int i) (.int j) H (.int (i * j)) := eo_of op_mulX fun _ _ _ q => ⟨i, j, rfl, rfl, h, q⟩
theorem eo_mod (h : 0 < j) : EO X (binaryOp .Mod) (.int i) (.int j) H (.int (i % j)) := eo_of op_mod fun _ _ _ q => ⟨i, j, rfl, rfl, h, q⟩
theorem eo_fdiv (h : CDivW i j) : EO X (binaryOp .FloorDiv) (.int i) (.int j) H (.int (i / j)) := eo_of op_fdivW fun _ _ _ q => ⟨i, j, rfl, rfl, h, q⟩
theorem eo_pow (h : CPow i j) : EO X (binaryOp .Pow) (.int i) (.int j) H (.int (i ^ j.toNat)) := eo_of op_pow fun _ _ _ q => ⟨i, j, rfl, rfl, h, q⟩
theorem eo_shl (h : CShl i j) : EO X (binaryOp .LShift) (.int i) (.int j) H (.int (i * 2 ^ j.toNat)) := eo_of op_shlW fun _ _ _ q => ⟨i, j, rfl, rfl, h, q⟩
theorem eo_and : EO X (binaryOp .BitAnd) (.int i) (.int j) H (.int (Builtin.bitAnd i j)) := eo_of op_and fun _ _ _ q => ⟨i, j, rfl, rfl, q⟩
theorem eo_lt : EO X (compareOp .Lt) (.int i) (.int j) H (.bl (decide (i < j))) := eo_of op_lt fun _ _ _ q => ⟨i, j, rfl, rfl, q⟩
theorem eo_le : EO X (compareOp .LtE) (.int i) (.int j) H (.bl (decide (i ≤ j))) := eo_of op_le fun _ _ _ q => ⟨i, j, rfl, rfl, q⟩
theorem eo_gt : EO X (compareOp .Gt) (.int i) (.int j) H (.bl (decide (j < i))) := eo_of op_gt fun _ _ _ q => ⟨i, j, rfl, rfl, q⟩
theorem eo_ge : EO X (compareOp .GtE) (.int i) (.int j) H (.bl (decide (j ≤ i))) := eo_of op_ge fun _ _ _ q => ⟨i, j, rfl, rfl, q⟩
theorem eo_eqI : EO X (compareOp .Eq) (.int i) (.int j) H (.bl (decide (i = j))) := (eo_of (z := .bl (decide (V.int i = V.int j))) op_eq fun _ _ _ q => ⟨rfl, q⟩).is (by congr 1; rw [dec_int, Bool.eq_iff_iff]; simp)
theorem eo_neI : EO X (compareOp .NotEq) (.int i) (.int j) H (.bl (!decide (i = j))) := (eo_of (z := .bl (!decide (V.int i = V.int j))) op_ne fun _ _ _ q => ⟨rfl, q⟩).is (by congr 2; rw [dec_int, Bool.eq_iff_iff]; simp)
end
theorem eo_neS {i j : Str} : EO X (compareOp .NotEq) (.str i) (.str j) H (.bl (!decide (i = j))) := (eo_of (z := .bl (!decide (V.str i = V.str j))) op_ne fun _ _ _ q => ⟨rfl, q⟩).is (by congr 2; rw [dec_str, Bool.eq_iff_iff]; simp)
/-! ## comparisons -/
theorem we_cmp {op : CmpOp} (h : WE X a σ H fun x H1 => WE X b σ H1 fun y H2 => WO X (compareOp op) x y H2 Q) (hm : behindInMarks op b = false := by first | exact nomark _ | with_unfolding_all rfl) : WE X (.Compare a [op] [b] pos) σ H Q :=
  .of (pe_cmpR op_W pe_W pe_W hm) fun H1 x => h.t x fun v H2 ⟨H3, x3, w⟩ => w.t x3 fun u H4 ⟨H5, x5, o⟩ => o.t x5 fun _ _ q => q
theorem wt_cmp {op : CmpOp} (h : WE X a σ H fun x H1 => WE X b σ H1 fun y H2 => WO X (compareOp op) x y H2 fun z H3 => ∃ k, z = .bl k ∧ QB k H3) (hm : behindInMarks op b = false := by first | exact nomark _ | with_unfolding_all rfl) : WT X (.Compare a [op] [b] pos) σ H QB :=
  .of (pt_cmpR op_W pe_W pe_W hm) fun H1 x => h.t x fun v H2 ⟨H3, x3, w⟩ => w.t x3 fun u H4 ⟨H5, x5, o⟩ => o.t x5 fun _ _ ⟨H6, x6, k, e, q⟩ => ⟨k, e, H6, x6, q⟩
theorem et_cmp {op : CmpOp} (ha : EV X a σ H x) (hb : EV X b σ H y) (ho : EO X (compareOp op) x y H (.bl k)) (hm : behindInMarks op b = false := by first | exact nomark _ | with_unfolding_all rfl) : ET X (.Compare a [op] [b] pos) σ H k := fun H1 e Q q =>
  wt_cmp ((ha.ex e).we ((hb.ex e).we ((ho.ex e).wo ⟨k, rfl, q⟩))) hm
/-! ## and, or, not, tests -/
theorem wt_val (h : WE X e σ H fun x H1 => ∃ k, x = .bl k ∧ QB k H1) (he : ∀ whole, isTrue e X.env whole = (do let v ← whole; standAt e.pos; holding [v] (truthy v)) := by intro _; rfl) : WT X e σ H QB :=
  .of (pt_val pe_W he) fun H1 x => h.t x fun v H2 ⟨H3, x3, k, e, q⟩ => ⟨k, e, H3, x3, q⟩
theorem ww_and1 (h : WT X a σ H QB) : WW X (.BoolOp .And [a] pos) σ H QB := .of (pw_and1 pt_W) fun H1 x => h.t x fun _ _ q => q
theorem ww_or1 (h : WT X a σ H QB) : WW X (.BoolOp .Or [a] pos) σ H QB := .of (pw_or1 pt_W) fun H1 x => h.t x fun _ _ q => q
theorem ww_and (h : WT X a σ H fun k H1 => if k = true then WW X (.BoolOp .And (b :: rest) pos) σ H1 QB else QB false H1) : WW X (.BoolOp .And (a :: b :: rest) pos) σ H QB :=
  .of (pw_and pt_W pw_W) fun H1 x => h.t x fun k H2 ⟨H3, x3, q⟩ => by
    cases k with
    | true => exact iteT (WW.t (by simpa using q) x3 fun _ _ q => q)
    | false => exact iteF ⟨H3, x3, by simpa using q⟩
theorem ww_or (h : WT X a σ H fun k H1 => if k = true then QB true H1 else WW X (.BoolOp .Or (b :: rest) pos) σ H1 QB) : WW X (.BoolOp .Or (a :: b :: rest) pos) σ H QB :=
  .of (pw_or pt_W pw_W) fun H1 x => h.t x fun k H2 ⟨H3, x3, q⟩ => by
    cases k with
    | true => exact iteT ⟨H3, x3, by simpa using q⟩
    | false => exact iteF (WW.t (by simpa using q) x3 fun _ _ q => q)
theorem wt_ww (h : WW X e σ H QB) : WT X e σ H QB := fun H1 x pins s I => h H1 x _ pins s I
theorem wt_not (h : WT X a σ H fun k H1 => QB (!k) H1) : WT X (.UnaryOp .Not a pos) σ H QB := .of (pt_not pt_W) fun H2 x2 => h.t x2 fun _ _ q => q
/-- as values (bools) -/
theorem we_one {op} (h : WE X a σ H Q) : WE X (.BoolOp op [a] pos) σ H Q := .of (pe_one pe_W) fun H1 x => h.t x fun _ _ q => q
theorem we_andV (h : WE X a σ H fun x H1 => ∃ k, x = .bl k ∧ if k = true then WE X (.BoolOp .And (b :: rest) pos) σ H1 Q else Q (.bl false) H1) : WE X (.BoolOp .And (a :: b :: rest) pos) σ H Q :=
  .of (pe_and pe_W pe_W) fun H1 x => h.t x fun v H2 ⟨H3, x3, k, e, q⟩ => ⟨k, e, by
    cases k with
    | true => exact iteT (WE.t (by simpa using q) x3 fun _ _ q => q)
    | false => exact iteF ⟨H3, x3, by simpa using q⟩⟩
theorem we_orV (h : WE X a σ H fun x H1 => ∃ k, x = .bl k ∧ if k = true then Q (.bl true) H1 else WE X (.BoolOp .Or (b :: rest) pos) σ H1 Q) : WE X (.BoolOp .Or (a :: b :: rest) pos) σ H Q :=
  .of (pe_or pe_W pe_W) fun H1 x => h.t x fun v H2 ⟨H3, x3, k, e, q⟩ => ⟨k, e, by
    cases k with
    | true => exact iteT ⟨H3, x3, by simpa using q⟩
    | false => exact iteF (WE.t (by simpa using q) x3 fun _ _ q => q)⟩
theorem we_if (h : WT X c σ H fun k H1 => if k = true then WE X a σ H1 Q else WE X b σ H1 Q) : WE X (.IfExp c a b pos) σ H Q :=
  .of (pe_ifExp pt_W pe_W pe_W) fun H1 x => h.t x fun k H2 ⟨H3, x3, q⟩ => by
    cases k with
    | true => exact iteT (WE.t (by simpa using q) x3 fun _ _ q => q)
    | false => exact iteF (WE.t (by simpa using q) x3 fun _ _ q => q)
theorem ev_if (hc : ET X c σ H k) (ha : k = true → EV X a σ H v) (hb : k = false → EV X b σ H v) : EV X (.IfExp c a b pos) σ H v := fun H1 x Q q => we_if ((hc.ex x).wt (by
  cases k with
  | true => exact iteT ((ha rfl) H1 x Q q)
  | false => exact iteF ((hb rfl) H1 x Q q)))
/-! ## lists of arguments, displays -/
theorem wa_nil (q : QA [] H) : WA X [] σ H QA := .of pa_nil fun H1 x => ⟨H, x, q⟩
theorem wa_cons (h : WE X e σ H fun x H1 => WA X es σ H1 fun xs H2 => QA (x :: xs) H2) (hs : starEach (e :: es) X.env = (false, eval e X.env) :: starEach es X.env := by rfl) : WA X (e :: es) σ H QA :=
  .of (pa_cons pe_W pa_W hs) fun H1 x => h.t x fun v H2 ⟨H3, x3, w⟩ => w.t x3 fun _ _ q => q
theorem ea_nil : EA X [] σ H [] := fun H1 x Q q => wa_nil q
theorem ea_cons (h : EV X e σ H v) (hr : EA X es σ H vs) (hs : starEach (e :: es) X.env = (false, eval e X.env) :: starEach es X.env := by rfl) : EA X (e :: es) σ H (v :: vs) := fun H1 x Q q => wa_cons ((h.ex x).we ((hr.ex x).wa q)) hs
theorem we_tup {x1} (h : WA X es σ H fun xs H1 => xs.length ≤ sizeLine ∧ ∀ p, H1 p = none → Q (.ref p) (upd H1 p (.tup xs))) : WE X (.Tuple es x1 pos) σ H Q :=
  .of (pe_tup pa_W) fun H1 x => h.t x fun xs H2 ⟨H3, x3, hz, k⟩ => ⟨hz, fun p hp => ⟨_, x3.set p _, k p (x3.free hp)⟩⟩
theorem we_lst (h : WA X es σ H fun xs H1 => xs.length ≤ sizeLine ∧ ∀ p, H1 p = none → Q (.ref p) (upd H1 p (.lst xs))) : WE X (.List es pos) σ H Q :=
  .of (pe_lst pa_W) fun H1 x => h.t x fun xs H2 ⟨H3, x3, hz, k⟩ => ⟨hz, fun p hp => ⟨_, x3.set p _, k p (x3.free hp)⟩⟩
theorem small {n : Nat} (h : n ≤ 100000) : n ≤ sizeLine := Nat.le_trans h (by decide)
theorem en_lst (h : EA X es σ H vs) (hz : vs.length ≤ 100000) : EN X (.List es pos) σ H (.lst vs) := fun H1 x Q q => we_lst ((h.ex x).wa ⟨small hz, q⟩)
/-! ## subscripts -/
theorem we_ix {r : R2} (hr : IxR X r) (h : WE X a σ H fun x H1 => WE X b σ H1 fun y H2 => ∀ H3, Ex H2 H3 → r x y H3 (up Q)) (hs : PlainIx b := by intro _ _; rfl) : WE X (.Subscript a b pos) σ H Q :=
  .of (pe_ix hr pe_W pe_W hs) fun H1 x => h.t x fun v H2 ⟨H3, x3, w⟩ => w.t x3 fun u H4 ⟨H5, x5, o⟩ => o H4 x5
theorem ev_ixL {p : Addr} {i : Int} (ha : EV X a σ H (.ref p)) (hb : EV X b σ H (.int i)) (h : SqL X.K H p xs) (hi : atI xs i = some v) (hs : PlainIx b := by intro _ _; rfl) : EV X (.Subscript a b pos) σ H v := fun H1 e Q q =>
  we_ix ix_list ((ha.ex e).we ((hb.ex e).we fun H3 e3 => ⟨p, xs, i, v, rfl, rfl, (e.trans e3).sqL h, hi, H1, e3, q⟩)) hs
/-! ## builtins called by name -/
theorem we_callB {id : String} {n : Str} (hm : X.mg n = none) (hv : bootBuiltins n = some (.builtin id)) (ha : WA X (e :: es) σ H fun vs H1 => WC X (.builtin id) vs H1 Q) (hg : Gl X n := by rfl) (hn : n ≠ "__name__" := by decide) (hdb : (n == ("__debug__" : Str)) = false := by decide)
    (he : starEach (e :: es) X.env = (false, eval e X.env) :: starEach es X.env := by rfl) (hpl : (backTo pos (starEach es X.env)).any (·.1) = false := by rfl) : WE X (.Call (.Name n p) (e :: es) [] pos) σ H Q :=
  .of (pe_callB call_W hg hm hv pa_W hn hdb he hpl) fun H1 x => ha.t x fun vs H2 ⟨H3, x3, w⟩ => w.t x3 fun _ _ q => q
theorem ev_callB {id : String} {n : Str} (hm : X.mg n = none) (hv : bootBuiltins n = some (.builtin id)) (ha : EA X (e :: es) σ H vs) (hc : EC X (.builtin id) vs H z) (hg : Gl X n := by rfl) (hn : n ≠ "__name__" := by decide) (hdb : (n == ("__debug__" : Str)) = false := by decide)
    (he : starEach (e :: es) X.env = (false, eval e X.env) :: starEach es X.env := by rfl) (hpl : (backTo pos (starEach es X.env)).any (·.1) = false := by rfl) : EV X (.Call (.Name n p) (e :: es) [] pos) σ H z := fun H1 x Q q =>
  we_callB hm hv ((ha.ex x).wa (hc H1 x Q q)) hg hn hdb he hpl
theorem ec_of {r : List V → Hp → VK → Prop} (h : CallR X fn r) (q : ∀ H1, Ex H H1 → ∀ Q : VK, Q z H1 → r vs H1 Q) : EC X fn vs H z := fun H1 e Q k => .of h fun H2 e2 => q H2 (e.trans e2) _ ⟨H1, e2, k⟩
theorem cn_of {r : List V → Hp → VK → Prop} {o : HO} (h : CallR X fn r) (q : ∀ H1, Ex H H1 → ∀ Q : VK, (∀ p, H1 p = none → Q (.ref p) (upd H1 p o)) → r vs H1 Q) : CN X fn vs H o := fun H1 e Q k => .of h fun H2 e2 => q H2 (e.trans e2) _ fun p hp => ⟨_, e2.set p o, k p (e2.free hp)⟩
/-- a call as an argument: evaluated, a value -/
theorem ec_abs {i : Int} : EC X (.builtin "abs") [.int i] H (.int (if i < 0 then -i else i)) := ec_of call_abs fun _ _ _ q => ⟨i, rfl, q⟩
theorem ec_max {i j : Int} (hc : X.calm = true) : EC X (.builtin "max") [.int i, .int j] H (.int (if j > i then j else i)) := ec_of (call_max2 hc) fun _ _ _ q => ⟨i, j, rfl, q⟩
theorem ec_min {i j : Int} (hc : X.calm = true) : EC X (.builtin "min") [.int i, .int j] H (.int (if j < i then j else i)) := ec_of (call_min2 hc) fun _ _ _ q => ⟨i, j, rfl, q⟩
theorem ec_lenL {p : Addr} (h : SqL X.K H p xs) : EC X (.builtin "len") [.ref p] H (.int xs.length) := ec_of call_len_seq fun _ e _ q => ⟨p, xs, rfl, .inl (e.sqL h), q⟩
theorem ec_all {p : Addr} {ns : List Bool} (h : SqL X.K H p (ns.map V.bl)) (hc : X.calm = true) : EC X (.builtin "all") [.ref p] H (.bl (ns.all id)) := ec_of (cr_all hc) fun _ e _ q => ⟨p, ns, rfl, e.sqL h, q⟩
theorem cn_divmod {i j : Int} (h : CDivP i j) : CN X (.builtin "divmod") [.int i, .int j] H (.tup [.int (i / j), .int (i % j)]) := cn_of call_divmodW fun _ _ _ q => ⟨i, j, rfl, h, q⟩
end
/-- what the code around wishes of an exception; it grows with the heap -/
structure Tk (X : Cx) (W : WX) : Prop where
  tk : Takes X W
  up : ∀ c d σ H H', W c d σ H → Ex H H' → W c d σ H'
  own : PassesOwn (model X.prog X.w) X.A X.env X.xe
section
variable {X : Cx} {W : WX} {e a b c tg iter : Expr} {es rest tgs : List Expr} {st : Stmt} {sts body : List Stmt} {σ : St} {H H1 H' : Hp} {Q Q1 : VK} {QB QB1 : Bool → Hp → Prop} {QA QA1 : List V → Hp → Prop} {D : Ends} {x y z v w : V} {pos p pos' : Pos} {f : Value → Value → Sem Value} {fn : Value} {xs vs : List V} {k l : Bool} {R R1 : St → Hp → Prop}

/-! ## blocks, small statements -/
theorem wss_nil (q : D.nx σ H) : WSs X [] D σ H := .of pss_nil fun H1 x => ⟨H, x, q⟩
theorem wss_cons (h : WS X st { D with nx := fun σ' H' => WSs X sts D σ' H' } σ H) : WSs X (st :: sts) D σ H :=
  .of (pss_cons ps_W pss_W) fun H1 x => ⟨H, _, x, h, ⟨fun σ' H2 ⟨H3, x3, w⟩ => ⟨H3, D, x3, w, EndsLe.rfl⟩, fun _ _ q => q, fun _ _ q => q, fun _ _ q => q⟩⟩
theorem wss_one (h : WS X st D σ H) : WSs X [st] D σ H := .of (pss_one ps_W) fun H1 x => ⟨H, D, x, h, EndsLe.rfl⟩
theorem ws_expr (h : WE X e σ H fun _ H1 => D.nx σ H1) (hs : swapsWith e none pos.line X.env = pure false := by rfl) : WS X (.Expr e pos) D σ H :=
  .of (ps_expr pe_W hs) fun H1 x => h.t x fun _ _ q => q
theorem ws_ret (h : WE X e σ H D.rt) : WS X (.Return (some e) pos) D σ H := .of (ps_ret pe_W) fun H1 x => h.t x fun _ _ q => q
theorem ws_if (h : WT X c σ H fun k H1 => if k = true then WSs X sts D σ H1 else WSs X body D σ H1) : WS X (.If c sts body pos) D σ H :=
  .of (ps_if pt_W pss_W pss_W) fun H1 x => h.t x fun k H2 ⟨H3, x3, q⟩ => by
    cases k with
    | true => exact iteT ⟨H3, D, x3, by simpa using q, EndsLe.rfl⟩
    | false => exact iteF ⟨H3, D, x3, by simpa using q, EndsLe.rfl⟩
theorem ws_ifE (h : ET X c σ H k) (h1 : k = true → WSs X sts D σ H) (h2 : k = false → WSs X body D σ H) : WS X (.If c sts body pos) D σ H := ws_if (h.wt (by
  cases k with
  | true => exact iteT (h1 rfl)
  | false => exact iteF (h2 rfl)))
theorem WS.le {D1 : Ends} (w : WS X st D σ H) (k : EndsLe D (upD D1)) : WS X st D1 σ H := fun H1 x pins s I => thn (w H1 x pins s I) fun u s' q => SP.le k q
/-! ## targets -/
def WG (X : Cx) (tg : Expr) (v : V) (σ : St) (H : Hp) (R : St → Hp → Prop) : Prop :=
  ∀ H1, Ex H H1 → ∀ pins s u, Inv X pins σ H1 s → RelV v u → wpAny (model X.prog X.w) X.A (assign tg X.env u) (fun _ s' => ∃ σ' H', Inv X pins σ' H' s' ∧ upS R σ' H') X.xe s
def tWG (X : Cx) (tg : Expr) : TG := fun v σ H1 R1 => ∃ H R, Ex H H1 ∧ WG X tg v σ H R ∧ ∀ σ' H2, upS R σ' H2 → R1 σ' H2
theorem pg_W : PG X tg (tWG X tg) := ⟨fun pins s σ H1 v u R1 I r ⟨H, R, x, w, k⟩ => thn (w H1 x pins s u I r) fun _ s' ⟨σ', H2, I2, q⟩ => ⟨σ', H2, I2, k _ _ q⟩⟩
theorem WG.of {t : TG} (h : PG X tg t) (q : ∀ H1, Ex H H1 → t v σ H1 (upS R)) : WG X tg v σ H R := fun H1 x pins s u I r => h.run pins s σ H1 v u _ I r (q H1 x)
theorem WG.t (w : WG X tg v σ H R) (x : Ex H H1) (k : ∀ σ' H2, upS R σ' H2 → R1 σ' H2) : tWG X tg v σ H1 R1 := ⟨H, R, x, w, k⟩
theorem wg_name {i : Nat} {n : Str} (hN : X.N.Nodup) (hi : X.N[i]? = some n) (q : R (σ.set i (some v)) H) (hx : Loc X.env.scope n := by first | exact .inl rfl | exact .inr rfl) (hf : X.fn n = true ∨ X.env.scope.names.lookup n = some .local := by first | exact .inl rfl | exact .inr rfl | assumption) : WG X (.Name n pos) v σ H R :=
  .of (pg_name hN hi hx hf) fun H1 x => ⟨H, x, q⟩
/-- several, from the left -/
def WGs (X : Cx) (ts : List Expr) (vs : List V) (σ : St) (H : Hp) (R : St → Hp → Prop) : Prop :=
  ∀ H1, Ex H H1 → ∀ pins s us, Inv X pins σ H1 s → Vals vs us → wpAny (model X.prog X.w) X.A (assignInOrder ((assignEach ts X.env).map (·.2)) us) (fun _ s' => ∃ σ' H', Inv X pins σ' H' s' ∧ upS R σ' H') X.xe s
def tWGs (X : Cx) (ts : List Expr) : TGs := fun vs σ H1 R1 => ∃ H R, Ex H H1 ∧ WGs X ts vs σ H R ∧ ∀ σ' H2, upS R σ' H2 → R1 σ' H2
theorem pgs_W : PGs X tgs (tWGs X tgs) := ⟨fun pins s σ H1 vs us R1 I r ⟨H, R, x, w, k⟩ => thn (w H1 x pins s us I r) fun _ s' ⟨σ', H2, I2, q⟩ => ⟨σ', H2, I2, k _ _ q⟩⟩
theorem WGs.of {t : TGs} (h : PGs X tgs t) (q : ∀ H1, Ex H H1 → t vs σ H1 (upS R)) : WGs X tgs vs σ H R := fun H1 x pins s us I r => h.run pins s σ H1 vs us _ I r (q H1 x)
theorem wgs_nil (q : R σ H) : WGs X [] [] σ H R := .of pgs_nil fun H1 x => ⟨rfl, H, x, q⟩
theorem wgs_cons (h : WG X tg v σ H fun σ' H' => WGs X tgs vs σ' H' R) (hs : (assignEach (tg :: tgs) X.env).map (·.2) = assign tg X.env :: (assignEach tgs X.env).map (·.2) := by rfl) : WGs X (tg :: tgs) (v :: vs) σ H R :=
  .of (pgs_cons pg_W pgs_W hs) fun H1 x => ⟨v, vs, rfl, h.t x fun σ' H2 ⟨H3, x3, w⟩ => ⟨H3, R, x3, w, fun _ _ q => q⟩⟩
theorem wg_tup {t : Addr} {i : Nat} (hs : SqT X.K H t vs) (h : WGs X tgs vs σ H R) (hc : X.calm = true := by rfl) (hn : (assignEach tgs X.env).length = vs.length := by rfl) (hst : (assignEach tgs X.env).findIdx? (·.1) = none := by rfl) : WG X (.Tuple tgs i pos) (.ref t) σ H R :=
  .of (pg_tup (n := vs.length) hc pgs_W hn hst) fun H1 x => ⟨t, vs, rfl, x.sqT hs, rfl, H, R, x, h, fun _ _ q => q⟩
theorem wg_lst {t : Addr} {i : Nat} (hs : SqL X.K H t vs) (h : WGs X tgs vs σ H R) (hc : X.calm = true := by rfl) (hn : (assignEach tgs X.env).length = vs.length := by rfl) (hst : (assignEach tgs X.env).findIdx? (·.1) = none := by rfl) : WG X (.Tuple tgs i pos) (.ref t) σ H R :=
  .of (pg_lst (n := vs.length) hc pgs_W hn hst) fun H1 x => ⟨t, vs, rfl, x.sqL hs, rfl, H, R, x, h, fun _ _ q => q⟩
/-- o[i] = v of a list -/
theorem wg_ixL {q : Addr} {i : Int} {j : Nat} (ho : EV X a σ H (.ref q)) (hi : EV X b σ H (.int i)) (hl : H q = some (.lst xs)) (hj : ixN xs.length i = some j) (h : R σ (upd H q (.lst (xs.set j v))))
    (ha : ∀ v, assign (.Subscript a b pos) X.env v = (do
      let ov ← holding [v] (eval a X.env)
      let iv ← holding [v, ov] (eval b X.env)
      standAt pos
      holding [v, ov, iv] (setItem ov iv v)
      release [v, ov, iv] []) := by intro _; rfl) : WG X (.Subscript a b pos) v σ H R :=
  .of (pg_sub pe_W pe_W set_list ha) fun H1 x => (ho.we (Q := fun v H' => v = .ref q ∧ H' = H) ⟨rfl, rfl⟩).t x fun o H2 ⟨H2', x2, eo, eH⟩ => by
    subst eo; subst eH
    refine (hi.we (Q := fun v H'' => v = .int i ∧ H'' = H2') ⟨rfl, rfl⟩).t x2 fun o H3 ⟨H3', x3, eo, eH⟩ => ?_
    subst eo; subst eH
    exact ⟨q, xs, i, j, rfl, rfl, x3 _ _ hl, hj, _, x3.set q _, h⟩
/-! ## assignments -/
theorem ws_set {i : Nat} {n : Str} (hN : X.N.Nodup) (hi : X.N[i]? = some n) (h : WE X e σ H fun x H1 => D.nx (σ.set i (some x)) H1) (hx : Loc X.env.scope n := by first | exact .inl rfl | exact .inr rfl) (hs : swapsWith e (some (.Name n pos')) pos.line X.env = pure false := by rfl)
    (hf : X.fn n = true ∨ X.env.scope.names.lookup n = some .local := by first | exact .inl rfl | exact .inr rfl | assumption) : WS X (.Assign [.Name n pos'] e pos) D σ H :=
  .of (ps_set hN hi hx pe_W hs hf) fun H1 x => h.t x fun _ _ q => q
theorem ws_asg (h : WE X e σ H fun x H1 => WG X tg x σ H1 D.nx) (hs : swapsWithSole [tg] e pos.line X.env = pure false := by rfl) (hw : swappedStores [tg] e X.env = pure none := by rfl)
    (h1 : (assignEach [tg] X.env).map (·.2) = [assign tg X.env] := by rfl) : WS X (.Assign [tg] e pos) D σ H :=
  .of (ps_asg pe_W pg_W hs hw h1) fun H1 x => h.t x fun v H2 ⟨H3, x3, w⟩ => w.t x3 fun _ _ q => q
theorem ws_aug {i : Nat} {n : Str} {op : Operator} (hN : X.N.Nodup) (hi : X.N[i]? = some n) (hx : σ[i]? = some (some x)) (h : WE X e σ H fun y H1 => WO X (inplaceOp op) x y H1 fun z H2 => D.nx (σ.set i (some z)) H2) (hl : Loc X.env.scope n := by first | exact .inl rfl | exact .inr rfl)
    (hf : X.fn n = true ∨ X.env.scope.names.lookup n = some .local := by first | exact .inl rfl | exact .inr rfl | assumption) : WS X (.AugAssign (.Name n pos') op e pos) D σ H :=
  .of (ps_aug hN hi hl pe_W (fun pins s σ H x y v u Q I rx ry q => op_W pins s σ H x y v u Q I rx ry q) hf) fun H1 e1 => ⟨x, hx, h.t e1 fun y H2 ⟨H3, x3, w⟩ => w.t x3 fun _ _ q => q⟩
section
variable {i j : Int}
theorem ip_sub : EO X (inplaceOp .Sub) (.int i) (.int j) H (.int (i - j)) := eo_of iop_sub fun _ _ _ q => ⟨i, j, rfl, rfl, q⟩
theorem ip_shr (h : 0 ≤ j) : EO X (inplaceOp .RShift) (.int i) (.int j) H (.int (i / 2 ^ j.toNat)) := eo_of iop_shr fun _ _ _ q => ⟨i, j, rfl, rfl, h, q⟩
end

/-! ## loops -/
/-- while, by an invariant with its measure -/
theorem ws_while (tk : Tk X W) (Pv : Nat → St → Hp → Prop) (m : Nat) (h0 : Pv m σ H)
    (hs : ∀ m σ' H', Pv m σ' H' → WT X c σ' H' fun k H2 => if k = true then WSs X body { D with nx := fun σ3 H3 => ∃ m', m' < m ∧ Pv m' σ3 H3, ct := fun σ3 H3 => ∃ m', m' < m ∧ Pv m' σ3 H3, bk := D.nx } σ' H2 else D.nx σ' H2) : WS X (.While c body [] pos) D σ H :=
  .of (ps_while tk.own pt_W pss_W) fun H1 x => ⟨fun m => upS (Pv m), ⟨m, H, x, h0⟩, fun m σ' H2 ⟨H3, x3, p⟩ => (hs m σ' H3 p).t x3 fun k H4 ⟨H5, x5, q⟩ => by
    cases k with
    | true =>
      rw [if_pos rfl] at q
      exact iteT ⟨fun σ6 H6 => ∃ m', m' < m ∧ upS (Pv m') σ6 H6, fun _ _ n => n, H5, _, x5, q, ⟨fun _ _ ⟨H7, x7, m', l, p⟩ => ⟨m', l, H7, x7, p⟩, fun _ _ q => q, fun _ _ q => q, fun _ _ ⟨H7, x7, m', l, p⟩ => ⟨m', l, H7, x7, p⟩⟩⟩
    | false => exact iteF ⟨H5, x5, by simpa using q⟩⟩
end
/-! ## defs: a promise that is kept wherever no repr is at work -/
structure FnG (P : Program) (w : World) (K : PySem.W.Frag) (mg : Str → Option Value) (base : Heap) (k : Nat) (f : Addr) (fd : FuncData) (ps : List Str) (sp : Sp) : Prop where
  len : ∀ vs H Q E, sp vs H Q E → vs.length = ps.length
  run : ∀ (A : Around) (outer : List Env) (s : Shared) (H1 : Hp) (args : Args) (us : List Value) (vs : List V) (H : Hp) (Q : VK) (E : XK), Room k A → A.guards = some [] → Env0 P w K mg base A outer s H1 → BindsTo s fd args (ps.zip us) → Vals vs us → Ex H H1 →
    sp vs H Q E → codeAny (model P w) A (.call (.ref f) args) (CR (L2.CX P w) outer P w H1 s (up Q) (upE E)) s
/-- the code around: room, no repr, its wish -/
structure Cn (X : Cx) (W : WX) (k : Nat) : Prop where
  room : X.calm = true → Room k X.A
  un : X.A.units + 16 * k + 200 < cLine
  gd : X.A.guards = some []
  tk : Takes X W
  wu : ∀ c d σ H H', W c d σ H → Ex H H' → W c d σ H'
theorem Cn.mono {X : Cx} {W : WX} {j k : Nat} (c : Cn X W k) (h : j ≤ k) : Cn X W j := ⟨fun z => (c.room z).mono h, by have := c.un; omega, c.gd, c.tk, c.wu⟩
theorem Cn.units {X : Cx} {W : WX} {k : Nat} (c : Cn X W k) : X.A.units + 64 < cLine := by have := c.un; omega
theorem Cn.hu {X : Cx} {W : WX} {k : Nat} (c : Cn X W k) : X.A.units + 1 < cLine := by have := c.un; omega
abbrev Own (X : Cx) : Prop := PassesOwn (model X.prog X.w) X.A X.env X.xe
theorem Cn.t {X : Cx} {W : WX} {k : Nat} (c : Cn X W k) (o : Own X) : Tk X W := ⟨c.tk, c.wu, o⟩

/-- a def's body as it runs -/
abbrev fx (P : Program) (w : World) (K : PySem.W.Frag) (mg : Str → Option Value) (base : Heap) (N : List Str) (qual : Str) (st : Stmt) (f : Addr) (cd : Value) (A : Around) (outer : List Env) (s : Shared) (H : Hp) (E : XK) : Cx :=
  cxOf (L2.CX P w) P w K mg base N qual (defScope st) f cd A outer s H E
section
variable {P : Program} {w : World} {K : PySem.W.Frag} {mg : Str → Option Value} {base : Heap}
/-- THE RULE of a def: its body -/
theorem fng_of {x qual : Str} {st : Stmt} {f : Addr} {fd : FuncData} {N ps : List Str} {k : Nat} {sp : Sp} (F : Fun K x qual st f fd) (S : FnScope N ps (defScope st)) (len : ∀ vs H Q E, sp vs H Q E → vs.length = ps.length)
    (body : ∀ (cd : Value) (A : Around) (outer : List Env) (s : Shared) (H1 : Hp) (E1 : XK) (W : WX) (vs : List V) (H : Hp) (Q : VK) (E : XK), Cn (fx P w K mg base N qual st f cd A outer s H1 E1) W k → Own (fx P w K mg base N qual st f cd A outer s H1 E1) →
      (∀ c d σ H', E c d H' → W c d σ H') → sp vs H Q E → WSs (fx P w K mg base N qual st f cd A outer s H1 E1) (defBody st) { nx := fun _ H' => Q .non H', rt := Q } (start N vs) H) : FnG P w K mg base (k + 1) f fd ps sp := by
  obtain ⟨oc, od, kV, doc, pm, an, cd, ct, osl, rfl, lk, hcd⟩ := F.ex
  refine ⟨len, fun A outer s H1 args us vs H Q E hr hgd e0 hb r hx hsp => ?_⟩
  have KX : K.In s.heap := e0.mod.kin.keeps fun b o e => (e0.bs b o e).1
  have hl := len _ _ _ _ hsp
  have kinds : ∀ y ∈ ps.zip us, (defScope st).names.lookup y.1 = some .local ∨ ((defScope st).names.lookup y.1 = some .cell ∧ ((cellsFrom (s.heap.objs.size + 1) (defScope st).names []).lookup y.1).isSome = true) := by
    rintro ⟨n, v⟩ hy
    rcases S.par n (List.of_mem_zip hy).1 with q | q
    · exact .inl q
    · exact .inr ⟨q, PySem.W.cellsFrom_some _ _ _ (.inl q)⟩
  refine codeAny_call_function hr.depth (KX _ _ lk) rfl S.co S.gen rfl (PySem.W.codeRec_of KX hcd) (hb _ _ _ _ (wpAny_newFunctionEnv_cells S.kind kinds fun env he s1 x => ?_))
  subst he
  refine ⟨(e0.mod.nolimit.keeps fun b o e => (e0.bs b o e).1).keeps x.toInCall.keep, codeAny_func ?_⟩
  have I := inv_start (CX := L2.CX P w) (E := upE E) S hr.hd e0 hl r x
  have c : Cn (fx P w K mg base N qual st f cd A outer s H1 (upE E)) (fun c d _ H' => upE E c d H') k :=
    ⟨fun _ => hr.deeper _, (hr.deeper _).un, hgd, takes_of (E := upE E) rfl rfl rfl rfl, fun c d σ H H' ⟨H2, x2, q⟩ x3 => ⟨H2, x2.trans x3, q⟩⟩
  have w1 := body cd A outer s H1 (upE E) _ vs H Q E c (passes_of rfl) (fun c d σ H' q => ⟨H', Ex.refl H', q⟩) hsp
  refine wpAny_mono (w1 H1 hx [] s1 I) (fun fl s' q => ?_) fun e s' q => q
  cases fl with
  | ret u =>
    obtain ⟨v, σ', H', J, rv, q⟩ := q
    exact ⟨v, H', J.os, J.bare, J.base, J.hok, rv, q⟩
  | next =>
    obtain ⟨σ', H', J, q⟩ := q
    exact ⟨.non, H', J.os, J.bare, J.base, J.hok, rfl, q⟩
  | brk =>
    obtain ⟨_, _, _, _, _, q⟩ := q
    exact q.elim
  | cont =>
    obtain ⟨_, _, _, _, _, q⟩ := q
    exact q.elim
/-- a def that is found under its name: level, parameters, defaults, promise -/
structure Cal (P : Program) (w : World) (K : PySem.W.Frag) (mg : Str → Option Value) (base : Heap) (n : Str) (k : Nat) (ps : List Str) (dvs : List V) (sp : Sp) : Prop where
  ex : ∃ (f : Addr) (fd : FuncData) (ds : List Value), FnG P w K mg base k f fd ps sp ∧ mg n = some (.ref f) ∧ PySem.W.keepIn K (.ref f) = true ∧ Binds K fd ps ds ∧ Vals dvs ds ∧ ∃ oc od osl, K.lookup f = some ⟨oc, od, .func fd, osl⟩
/-- where a def stands -/
structure Def (K : PySem.W.Frag) (mg : Str → Option Value) (n : Str) (st : Stmt) (ps : List Str) : Type where
  f : Addr
  fd : FuncData
  F : Fun K n n st f fd
  g : mg n = some (.ref f)
  b : Binds K fd ps []
theorem Def.cal {n : Str} {st : Stmt} {ps N : List Str} {k : Nat} {sp : Sp} (d : Def K mg n st ps) (S : FnScope N ps (defScope st)) (len : ∀ vs H Q E, sp vs H Q E → vs.length = ps.length)
    (body : ∀ (cd : Value) (A : Around) (outer : List Env) (s : Shared) (H1 : Hp) (E1 : XK) (W : WX) (vs : List V) (H : Hp) (Q : VK) (E : XK), Cn (fx P w K mg base N n st d.f cd A outer s H1 E1) W k → Own (fx P w K mg base N n st d.f cd A outer s H1 E1) →
      (∀ c d σ H', E c d H' → W c d σ H') → sp vs H Q E → WSs (fx P w K mg base N n st d.f cd A outer s H1 E1) (defBody st) { nx := fun _ H' => Q .non H', rt := Q } (start N vs) H) : Cal P w K mg base n (k + 1) ps [] sp :=
  ⟨d.f, d.fd, [], fng_of d.F S len body, d.g, d.F.kp, d.b, .nil, by
    obtain ⟨oc, od, kV, doc, pm, an, cd, ct, osl, e, lk, _⟩ := d.F.ex
    exact ⟨oc, od, osl, lk⟩⟩
end

section
variable {X : Cx} {W : WX} {e : Expr} {es : List Expr} {σ : St} {H H1 : Hp} {Q : VK} {E : XK} {v : V} {vs dvs : List V} {n : Str} {k j : Nat} {f : Addr} {fd : FuncData} {ps : List Str} {sp : Sp} {us ds : List Value} {p pos : Pos} {pins : List (Addr × Obj)} {s : Shared}
theorem run_fng (F : FnG X.prog X.w X.K X.mg X.base k f fd ps sp) (c : Cn X W k) (hcm : X.calm = true) (hb : Binds X.K fd ps ds) (hd : Vals dvs ds) (I : Inv X pins σ H1 s) (x : Ex H H1) (r : Vals vs us) (h : sp (vs ++ dvs) H Q fun c d H' => W c d σ H') :
    wpAny (model X.prog X.w) X.A (call (.ref f) us) (EP X pins σ (up Q)) X.xe s := by
  have r2 := r.append hd
  have hl : (us ++ ds).length = ps.length := r2.length.symm.trans (F.len _ _ _ _ h)
  refine wpAny_call (codeAny_mono (F.run X.A X.stack s H1 ⟨us, []⟩ (us ++ ds) (vs ++ dvs) H Q _ (c.room hcm) c.gd I.env0 (hb s us I.kIn hl) r2 x h) fun res s' q => ?_)
  rcases res with er | fl
  · exact c.tk er s' (XE.of_call I (fun cl d H' ⟨H2, x2, q2⟩ => c.wu _ _ _ _ _ q2 x2) q)
  · cases fl with
    | ret u => exact I.after q
    | _ => exact q.elim
theorem we_call (C : Cal X.prog X.w X.K X.mg X.base n k ps dvs sp) (c : Cn X W j) (ha : WA X (e :: es) σ H fun vs H1 => sp (vs ++ dvs) H1 Q fun c d H' => W c d σ H') (hkj : k ≤ j := by decide) (hcm : X.calm = true := by rfl) (hg : Gl X n := by rfl) (hdb : (n == ("__debug__" : Str)) = false := by decide)
    (he : starEach (e :: es) X.env = (false, eval e X.env) :: starEach es X.env := by rfl) (hpl : (backTo pos (starEach es X.env)).any (·.1) = false := by rfl) : WE X (.Call (.Name n p) (e :: es) [] pos) σ H Q := by
  obtain ⟨f, fd, ds, F, hm, hk, hb, hd, _⟩ := C.ex
  intro H1 x pins s I
  refine wpAny_Call_Name_kw (ld_glob I hg hm (PySem.W.callWith_K (h₀ := X.base) I.ok.mod.kin hk (thn (ha H1 x pos pins s I) fun us s1 ⟨vs, H2, I2, r, H3, x3, q⟩ => ⟨I2.kIn, ?_⟩) he hpl) hdb)
  exact run_fng F (c.mono hkj) hcm hb hd I2 x3 r q
end

/-! ## raise -/
section
variable {X : Cx} {W : WX} {e : Expr} {es : List Expr} {σ : St} {H H1 : Hp} {Q : VK} {D : Ends} {E : XK} {n : Str} {C : Addr} {p pos : Pos} {k : Nat}
def WM (X : Cx) (e : Expr) (σ : St) (H : Hp) (E : XK) : Prop := ∀ H1, Ex H H1 → ∀ pins s, Inv X pins σ H1 s → wpAny (model X.prog X.w) X.A (eval e X.env) (MkP X pins σ (upE E)) X.xe s
theorem ws_raise (c : Cn X W k) (h : WM X e σ H fun c d H' => W c d σ H') (hc : X.calm = true := by rfl) : WS X (.Raise (some e) none pos) D σ H :=
  .of (ps_raise hc c.tk (t := fun σ H1 E1 => ∃ H E, Ex H H1 ∧ WM X e σ H E ∧ ∀ c d H', upE E c d H' → E1 c d H') fun pins s σ H1 E1 I ⟨H, E, x, w, k⟩ =>
    thn (w H1 x pins s I) fun u s1 ⟨a, oe, vs, sI, H', cls, d, e1, J, k1, hne, ha, hz, hd, h1, na, os, ag, r, q⟩ => ⟨a, oe, vs, sI, H', cls, d, e1, J, k1, hne, ha, hz, hd, h1, na, os, ag, r, k _ _ _ q⟩)
    fun H1 x => ⟨H, _, x, h, fun c1 d1 H' ⟨H2, x2, q⟩ => c.wu _ _ _ _ _ q x2⟩
/-- an own class of error without an __init__ -/
structure ErrC (K : PySem.W.Frag) (mg : Str → Option Value) (n : Str) (C : Addr) : Prop where
  g : mg n = some (.ref C)
  x : PySem.W.excIn K C [.type "ValueError", .type "Exception", .type "BaseException", .type "object"] "ValueError.__new__" = true
  kp : PySem.W.keepIn K (.ref C) = true
  sb : PySem.W.subIn K (.ref C) (.type "BaseException") = some true
  ty : PySem.W.typeIn K (.ref C) = some (.type "type")
  dd : PySem.W.hasDictIn K C = true
theorem wm_err (T : ErrC X.K X.mg n C) (ha : WA X (e :: es) σ H fun vs H1 => vs.length ≤ 1000 ∧ E (.ref C) none H1) (hg : Gl X n := by rfl) (hdb : (n == ("__debug__" : Str)) = false := by decide)
    (he : starEach (e :: es) X.env = (false, eval e X.env) :: starEach es X.env := by rfl) (hpl : (backTo pos (starEach es X.env)).any (·.1) = false := by rfl) : WM X (.Call (.Name n p) (e :: es) [] pos) σ H E := fun H1 x pins s I =>
  (pmk_ownA PySem.F.excBase_ValueError T.x T.g T.kp (raises_own T.sb T.ty) hg pa_W hdb he hpl) pins s σ H1 _ I (ha.t x fun vs H2 ⟨H3, x3, hz, q⟩ => ⟨Nat.le_trans hz (by decide), H3, x3, q⟩)
end

/-! ## f-strings -/
section
variable {X : Cx} {e a b : Expr} {es : List Expr} {σ : St} {H H1 : Hp} {p pos : Pos}
inductive JV (X : Cx) (σ : St) (H : Hp) : List Expr → List Str → Prop where
  | nil : JV X σ H [] []
  | cons {e : Expr} {y : Str} {es : List Expr} {ys : List Str} (h : EV X e σ H (.str y)) (r : JV X σ H es ys) : JV X σ H (e :: es) (y :: ys)
theorem JV.pj {ys : List Str} (h : JV X σ H es ys) : PJ X es (es.map (tWE X)) := by
  induction h with
  | nil => exact .nil
  | cons h r ih => exact .cons pe_W ih
theorem strlen (a b : Str) : (a ++ b).length = a.length + b.length := by
  show (Str.mk (a.cps ++ b.cps)).cps.size = _
  simp [Str.length]
theorem JV.run {ys : List Str} (h : JV X σ H es ys) : ∀ (acc : Str) (Q : Str → Hp → Prop) (H1 H2 : Hp), Ex H H1 → Ex H1 H2 → acc.length + (ys.map Str.length).sum ≤ sizeLine → (∀ H3, Ex H1 H3 → Q (ys.foldl (· ++ ·) acc) H3) → tJs (es.map (tWE X)) acc σ H2 Q := by
  induction h with
  | nil => intro acc Q H1 H2 x x2 hz k; exact k H2 x2
  | @cons e y es ys h r ih =>
    intro acc Q H1 H2 x x2 hz k
    refine ((h.ex x).we (Q := fun v H => v = .str y ∧ H = H1) ⟨rfl, rfl⟩).t x2 fun v H3 ⟨H4, x4, ev, eH⟩ => ?_
    subst ev; subst eH
    have hz2 : acc.length + (y.length + (ys.map Str.length).sum) ≤ sizeLine := by simpa using hz
    exact ⟨y, rfl, by rw [strlen]; omega, ih (acc ++ y) Q H4 H3 x x4 (by rw [strlen]; omega) k⟩
end
/-! ## try -/
section
variable {X : Cx} {W : WX} {body suite : List Stmt} {b0 : Stmt} {σ : St} {H H1 : Hp} {D : Ends} {n x : Str} {i k : Nat} {c : Value} {np pos pos' : Pos}
def Suite (X : Cx) (a : Addr) (cls : Value) (d : Option Addr) (sts : List Stmt) (D : Ends) (σ : St) (H : Hp) : Prop := ∀ oe pn, Zc cls d oe → (∃ vs, oe.data = .fields vs) → WSs (X.suite a ((a, oe) :: pn)) sts D σ H
def upW (W : WX) : WX := fun c d σ H => ∃ H', Ex H' H ∧ W c d σ H'
theorem Cn.tr {k : Nat} {W W1 : WX} {pn : List (Addr × Obj)} {xe : Value → Shared → Prop} (cn : Cn X W k) (tk : Takes (X.tr pn xe) W1) (h : ∀ c d σ H, upW W1 c d σ H → W1 c d σ H) : Cn (X.tr pn xe) W1 k :=
  ⟨cn.room, cn.un, cn.gd, tk, fun c d σ H H' w x => h _ _ _ _ ⟨H, x, w⟩⟩
def tSuite (X : Cx) (sts : List Stmt) (a : Addr) (cls : Value) (d : Option Addr) : TS := fun D1 σ H1 => ∃ H D, Ex H H1 ∧ Suite X a cls d sts D σ H ∧ EndsLe D D1
end

/-! ## the law's end -/
section
variable {P : Program} {w : World} {K : PySem.W.Frag} {mg mb : Str → Option Value} {k : Nat} {fa a : Addr} {fd : FuncData} {x : Str} {sp : Sp} {s : Shared} {vs : List Value} {ns : List Int}
end
/-! ## what a value's class is -/
inductive Ty (H : Hp) : V → String → Prop
  | non : Ty H .non "NoneType"
  | bl (b : Bool) : Ty H (.bl b) "bool"
  | int (i : Int) : Ty H (.int i) "int"
  | str (s : Str) : Ty H (.str s) "str"
  | lst {p : Addr} {xs : List V} (h : H p = some (.lst xs)) : Ty H (.ref p) "list"
  | tup {p : Addr} {xs : List V} (h : H p = some (.tup xs)) : Ty H (.ref p) "tuple"
  | dct {p : Addr} {xs : List (Key × V)} (h : H p = some (.dK xs)) : Ty H (.ref p) "dict"
theorem Ty.ex {H H' : Hp} (x : Ex H H') : ∀ {v : V} {T : String}, Ty H v T → Ty H' v T
  | _, _, .non => .non
  | _, _, .bl b => .bl b
  | _, _, .int b => .int b
  | _, _, .str b => .str b
  | _, _, .lst h => .lst (x _ _ h)
  | _, _, .tup h => .tup (x _ _ h)
  | _, _, .dct h => .dct (x _ _ h)
theorem Ty.x {K : PySem.W.Frag} {H : Hp} : ∀ {v : V} {T : String}, Ty H v T → TyX K H v (.type T)
  | _, _, .non => .base .non
  | _, _, .bl b => .base (.bl b)
  | _, _, .int b => .base (.int b)
  | _, _, .str b => .base (.str b)
  | _, _, .lst h => .base (.lst h)
  | _, _, .tup h => .base (.tup h)
  | _, _, .dct h => .base (.dK h)
def tyIs (T U : String) : Bool := T == U || (T == "bool" && U == "int")
theorem kit_is {H : Hp} {v : V} {T U : String} (ht : Ty H v T) (hU : U = "int" ∨ U = "bool" ∨ U = "str" ∨ U = "list" ∨ U = "tuple" ∨ U = "dict") : kitB T U = some (tyIs T U) := by
  cases ht <;> rcases hU with rfl | rfl | rfl | rfl | rfl | rfl <;> decide +kernel
theorem ec_isT {X : Cx} {H : Hp} {v : V} {T U : String} (ht : Ty H v T) (hU : U = "int" ∨ U = "bool" ∨ U = "str" ∨ U = "list" ∨ U = "tuple" ∨ U = "dict") : EC X (.builtin "isinstance") [v, .ty U] H (.bl (tyIs T U)) :=
  ec_of call_isi fun _ x _ q => ⟨v, .ty U, _, _, _, rfl, .ty U, (ht.ex x).x, kit_ty (kit_is ht hU), q⟩
theorem ev_ty {X : Cx} {σ : St} {H : Hp} {pos : Pos} {n : Str} {T : String} (hm : X.mg n = none) (hv : bootBuiltins n = some (.type T)) (hg : Gl X n := by rfl) (hn : n ≠ "__name__" := by decide) (hd : (n == ("__debug__" : Str)) = false := by decide) : EV X (.Name n pos) σ H (.ty T) := ev_bltn hm hv rfl hg hn hd
def isInt : V → Bool
  | .int _ => true
  | _ => false
theorem Ty.int_is {H : Hp} {v : V} {T : String} (h : Ty H v T) : (tyIs T "int" && !tyIs T "bool") = isInt v := by cases h <;> rfl

/-! ## ends, forgetting -/
section
variable {X : Cx} {e : Expr} {sts : List Stmt} {σ : St} {H H1 H' : Hp} {D : Ends} {pos : Pos} {Q : VK} {v : V} {p q : Addr} {o u : HO}
theorem ws_retF (h : WE X e σ H fun v H1 => ∃ H', Ex H' H1 ∧ D.rt v H') : WS X (.Return (some e) pos) D σ H := ws_ret h.forget
theorem WSs.forget (x : Ex H H') (h : WSs X sts D σ H) : WSs X sts D σ H' := fun H1 x1 => h H1 (x.trans x1)
theorem wss_nilF (h : ∃ H', Ex H' H ∧ D.nx σ H') : WSs X [] D σ H := by
  obtain ⟨H', x, q⟩ := h
  exact WSs.forget x (wss_nil q)
theorem exput (x : Ex H H') (h : H' p = some o) : Ex (upd H p o) H' := fun a u ha => by
  by_cases e : a = p
  · subst e; rw [upd_same] at ha; rw [h]; exact ha
  · rw [upd_ne e] at ha; exact x a u ha
theorem upd_id (h : H p = some o) : upd H p o = H := by
  funext a
  by_cases e : a = p
  · subst e; rw [upd_same, h]
  · rw [upd_ne e]
theorem hp_ne (n : H p = none) (h : H q = some u) : upd H p o q = some u := Ex.put n _ _ h

/-- all but one object is as it was -/
def ExB (p : Addr) (H H' : Hp) : Prop := ∀ a o, a ≠ p → H a = some o → H' a = some o
theorem ExB.refl : ExB p H H := fun _ _ _ h => h
theorem ExB.set {o : HO} (x : ExB p H H') : ExB p H (upd H' p o) := fun a u n h => by rw [upd_ne n]; exact x a u n h
theorem ExB.new {q : Addr} {o : HO} (x : ExB p H H') (n : H' q = none) : ExB p H (upd H' q o) := fun a u ne h => hp_ne n (x a u ne h)
theorem ExB.ex (x : ExB p H H') (h : H p = some o) : Ex H (upd H' p o) := fun a u ha => by
  by_cases e : a = p
  · subst e; rw [upd_same, ← h, ha]
  · rw [upd_ne e]; exact x a u e ha
theorem lenle {xs : List V} (h : Nat.ble xs.length 100000 = true) : xs.length ≤ 100000 := Nat.le_of_ble_eq_true h

/-! ## an object by what stays true of it -/
/-- the drawing pot: two ints, the first one not negative, the second one small -/
def PotOk (a b : Int) : Prop := 0 ≤ a ∧ 0 ≤ b ∧ b < 2147483648
def PotAt (p : Addr) (h : Heap) : Prop := ∃ (a b : Int) (t u : Tok) (n : Nat), PotOk a b ∧ h.get? p = some { cls := .type "list", data := .seq [Value.int a t, Value.int b u].toArray n }
def pot (p : Addr) : HO := .ext (PotAt p)
theorem pot_ok {P : Program} {w : World} {H : Hp} {h : Heap} {a b : Int} (ok : PotOk a b) (x : ObjOk P w H h p (.lst [.int a, .int b])) (H2 : Hp) : ObjOk P w H2 h p (pot p) := by
  obtain ⟨_, its, n, r, e⟩ := x
  cases r with
  | cons r1 r2 =>
    cases r2 with
    | cons r2 r3 =>
      cases r3
      obtain ⟨t, rfl⟩ := r1
      obtain ⟨u, rfl⟩ := r2
      exact ⟨⟨a, b, t, u, n, ok, e⟩, ⟨_, e⟩, fun h1 h2 ⟨a, b, t, u, n, ok, e⟩ k => ⟨a, b, t, u, n, ok, k _ e⟩⟩
theorem pot_open {X : Cx} {pins : List (Addr × Obj)} {s : Shared} (I : Inv X pins σ H s) (h : H p = some (pot p)) : ∃ a b, PotOk a b ∧ Inv X pins σ (upd H p (.lst [.int a, .int b])) s := by
  obtain ⟨⟨a, b, t, u, n, ok, e⟩, _, _⟩ := I.hok p _ h
  exact ⟨a, b, ok, I.write (x := p) (e := p) (h' := s.heap) (t' := s.toks) (by rw [h]; trivial) (.inl rfl) (fun _ _ _ q => q) ⟨_, e⟩ ⟨by show 2 ≤ sizeLine; decide, _, n, .cons ⟨t, rfl⟩ (.cons ⟨u, rfl⟩ .nil), e⟩⟩
theorem pot_close {X : Cx} {pins : List (Addr × Obj)} {s : Shared} {a b : Int} (I : Inv X pins σ H s) (h : H p = some (.lst [.int a, .int b])) (ok : PotOk a b) : Inv X pins σ (upd H p (pot p)) s := by
  have z := I.hok p _ h
  obtain ⟨_, its, n, r, e⟩ := id z
  exact I.write (x := p) (e := p) (h' := s.heap) (t' := s.toks) (by rw [h]; trivial) (.inl rfl) (fun _ _ _ q => q) ⟨_, e⟩ (pot_ok ok z _)
/-- open the pot ahead of a block -/
theorem wss_pot (h : H p = some (pot p)) (k : ∀ a b, PotOk a b → WSs X sts D σ (upd H p (.lst [.int a, .int b]))) : WSs X sts D σ H := fun H1 x pins s I => by
  obtain ⟨a, b, ok, I2⟩ := pot_open I (x _ _ h)
  exact k a b ok _ (x.set p _) pins s I2
/-- close it behind a value -/
theorem we_pot (h : WE X e σ H fun v H2 => ∃ p a b, H2 p = some (.lst [.int a, .int b]) ∧ PotOk a b ∧ Q v (upd H2 p (pot p))) : WE X e σ H Q := fun H1 x pins s I =>
  thn (h H1 x pins s I) fun u s' ⟨v, H2, I2, r, H3, x3, p, a, b, hp, ok, q⟩ => ⟨v, _, pot_close I2 (x3 _ _ hp) ok, r, _, x3.set p _, q⟩
theorem pot_end {H2 : Hp} {a b : Int} (hp : H p = some (pot p)) (x : ExB p H H2) (h2 : H2 p = some (.lst [.int a, .int b])) (ok : PotOk a b) (q : Q v H) : ∃ p a b, H2 p = some (.lst [.int a, .int b]) ∧ PotOk a b ∧ ∃ H', Ex H' (upd H2 p (pot p)) ∧ Q v H' :=
  ⟨p, a, b, h2, ok, H, x.ex hp, q⟩
end
/-! ## sizes -/
theorem mul_okL {i j : Int} (h : -1000000000000000000 < i) (h2 : i < 1000000000000000000) : CMul i j := .inl ⟨by omega, by omega⟩
theorem mul_okR {i j : Int} (h : -1000000000000000000 < j) (h2 : j < 1000000000000000000) : CMul i j := .inr ⟨by omega, by omega⟩
theorem pow_ok {i j : Int} (h : 0 ≤ j) (h2 : j ≤ 1000000) (h3 : -1000000000000000000 < i) (h4 : i < 1000000000000000000) : CPow i j := ⟨h, h2, by omega⟩
theorem big_lt {i : Int} (h : -10000000000000000000000000000000000000000000000000000000000000000000000000000000000000000000000000000 ≤ i) (h2 : i ≤ 10000000000000000000000000000000000000000000000000000000000000000000000000000000000000000000000000000) : i.natAbs < 2 ^ 400 := Nat.lt_of_le_of_lt (show i.natAbs ≤ (10000000000000000000000000000000000000000000000000000000000000000000000000000000000000000000000000000:Int).toNat by show _ ≤ 10000000000000000000000000000000000000000000000000000000000000000000000000000000000000000000000000000; omega) (by decide +kernel)
theorem fdiv_ok {i j : Int} (h : 0 < j) (h2 : j ≤ 10000000000000000000000000000000000000000000000000000000000000000000000000000000000000000000000000000) : CDivW i j := wide_div (b := 400) h (big_lt (by omega) h2) (by decide) (by decide)
def DigOk (m : Int) : Prop := 0 < m ∧ m ≤ 10000000000000000000000000000000000000000000000000000000000000000000000000000000000000000000000000000
theorem dig_div {a m : Int} (h : DigOk m) : CDivP a m := ⟨h.1, PyProof.noPylong_of_log2 (fdiv_ok (i := a) h.1 h.2).2⟩
theorem shl_fits {i j : Int} (h : 0 ≤ j) (h2 : j ≤ 1000000) (h3 : -10000000000000000000000000000000000000000000000000000000000000000000000000000000000000000000000000000 ≤ i) (h4 : i ≤ 10000000000000000000000000000000000000000000000000000000000000000000000000000000000000000000000000000) : CShl i j := by
  obtain ⟨n, rfl⟩ := Int.eq_ofNat_of_zero_le h
  exact shl_ok (n := 400) (big_lt h3 h4) (by omega)
section
variable {X : Cx} {W : WX} {tg iter a : Expr} {body sts : List Stmt} {σ : St} {H : Hp} {D : Ends} {pos pos' p : Pos} {xs : List V} {q : Addr} {v : V}
theorem WG.mono {R R1 : St → Hp → Prop} (w : WG X tg v σ H R) (k : ∀ σ' H', R σ' H' → R1 σ' H') : WG X tg v σ H R1 := fun H1 x pins s u I r =>
  thn (w H1 x pins s u I r) fun _ s' ⟨σ', H2, I2, H3, x3, q⟩ => ⟨σ', H2, I2, H3, x3, k _ _ q⟩
end
/-- a def from what the top has written -/
def def_mk {h : Heap} {K : PySem.W.Frag} {mg : Str → Option Value} {n : Str} {st : Stmt} (ps : List Str) (X : K.In h) (G : h.Ns mainGlobals mg) {f : Addr} {oc : Value} {od an : Option Addr} {osl : Array (Option Value)} {kV doc pm cdv ct : Value} (a : PySem.W.nsIn K mainGlobals n = some (some (.ref f)))
    (l : K.lookup f = some ⟨oc, od, .func (PySem.W.fnOf n n (defArgs st) (defBody st) (defScope st) .none kV doc pm an cdv ct), osl⟩) (c : PySem.W.codeIn K cdv n = true) (k : PySem.W.keepIn K (.ref f) = true)
    (b : ∀ us : List Value, us.length = ps.length → bindArgs (PySem.W.fnOf n n (defArgs st) (defBody st) (defScope st) .none kV doc pm an cdv ct) ⟨us, []⟩ = pure (ps.zip us)) : Def K mg n st ps :=
  ⟨f, _, fun_mk (st := st) l c k, PySem.W.mg_of X G a, .all b⟩
/-! ## comprehensions -/
theorem Cn.blk {X : Cx} {W : WX} {k : Nat} (c : Cn X W k) (s : Shared) (H : Hp) (scope : Scope) (C : Addr) (cl : List (Str × Addr)) (fp : List Addr) : Cn (X.blk s H scope (compEnvC scope cl C X.env) fp) (fun _ _ _ _ => False) k :=
  ⟨c.room, c.un, c.gd, fun u s' ⟨a, B, sI, pins, σ, H, cls, d, e, I, nb, up, sky, na, os, ag, w⟩ => w.elim, fun _ _ _ _ _ z _ => z⟩
section
variable {X : Cx} {tg elt c0 iter : Expr} {ifs : List Expr} {scope : Scope} {own : List (Str × Nat)} {σ : St} {H H1 : Hp} {Q : VK} {D : Ends} {pos spos py : Pos} {xs : List V} {q : Addr} {wi : TI} {tt : TT} {te : TE} {vs : List Nat}
/-- a block's turn as seen from within -/
def InB (X : Cx) (scope : Scope) (p : Cx → Prop) : Prop := ∀ (s : Shared) (H : Hp) (C : Addr) (cl : List (Str × Addr)) (fp : List Addr), p (X.blk s H scope (compEnvC scope cl C X.env) fp)
def gB (X : Cx) (scope : Scope) (tg : Expr) : TG := fun v σ H1 R1 => InB X scope fun Y => tWG Y tg v σ H1 R1
abbrev Stp := St → Hp → (Option V → Hp → Prop) → Prop
def StOk (st : Stp) (tt : TT) (te : TE) : Prop := ∀ σ H R, st σ H R → ∀ H1, Ex H H1 → ∀ G : Option V → Hp → Prop, (∀ oy H', (∃ H2, Ex H2 H' ∧ R oy H2) → G oy H') → tt σ H1 fun b H3 => if b = true then te σ H3 fun y H4 => G (some y) H4 else G none H3
/-- the list so far -/
def addTo (acc : List V) : Option V → List V
  | some y => acc ++ [y]
  | none => acc
/-- one turn, the heap of the turn forgotten -/
def Turn (X : Cx) (scope : Scope) (tg : Expr) (st : Stp) (vs : List Nat) (σ : St) (H : Hp) (x : V) (acc : List V) (Nx : List V → Prop) : Prop :=
  ∀ d, H d = none → InB X scope fun Y => WG Y tg x (wipe σ vs) (upd H d (.lst acc)) fun σ2 H2 => wipe σ2 vs = wipe σ vs ∧ st σ2 H2 fun oy H3 => Ex (upd H d (.lst acc)) H3 ∧ Nx (addTo acc oy)
theorem Turn.run {st : Stp} (ok : StOk st tt te) {x : V} {acc : List V} {Nx : List V → Prop} (t : Turn X scope tg st vs σ H x acc Nx) {d : Addr} (hd : H d = none) (hz : acc.length < 100000) {H4 : Hp} (x4 : Ex (upd H d (.lst acc)) H4) {G : Hp → Prop}
    (k : ∀ acc' H5, acc'.length ≤ acc.length + 1 → Nx acc' → Ex (upd H d (.lst acc')) H5 → G H5) :
    gB X scope tg x (wipe σ vs) H4 fun σ2 H2 => wipe σ2 vs = wipe σ vs ∧ tt σ2 H2 fun b H3 => if b = true then te σ2 H3 fun y H5 => ∃ acc, H5 d = some (.lst acc) ∧ acc.length < sizeLine ∧ G (upd H5 d (.lst (acc ++ [y]))) else G H3 := fun s H0 C cl fp =>
  (t d hd s H0 C cl fp).t x4 fun σ2 H2 ⟨H3, x3, e, w⟩ => ⟨e, by
    refine ok σ2 H3 _ w H2 x3 (fun oy H5 => match oy with | some y => ∃ acc, H5 d = some (.lst acc) ∧ acc.length < sizeLine ∧ G (upd H5 d (.lst (acc ++ [y]))) | none => G H5) fun oy H5 ⟨H6, x6, x7, n⟩ => ?_
    cases oy with
    | some y =>
      refine ⟨acc, (x7.trans x6) _ _ upd_same, Nat.lt_trans hz (by decide), k (acc ++ [y]) _ (by simp) n ?_⟩
      have z := (x7.trans x6).set d (.lst (acc ++ [y]))
      rw [upd_upd] at z
      exact z
    | none => exact k acc H5 (Nat.le_succ _) n (x7.trans x6)⟩
end
/-! ## repr of data -/
mutual
def fits : PyData → Prop
  | .none => True
  | .bool _ => True
  | .int i => i.natAbs < 10 ^ 120
  | .str x => ∀ c ∈ x.cps.toList, c < 4294967296
  | .list xs => fitsAll xs
  | .tuple xs => fitsAll xs
  | .dict _ => False
def fitsAll : List PyData → Prop
  | [] => True
  | x :: xs => fits x ∧ fitsAll xs
end
theorem int_shown {i : Int} (h : i.natAbs < 10 ^ 120) : (PyData.shown (.int i)).length ≤ 130 := by
  have e := int_text_length_le10 (k := 120) (by decide) h
  show (Str.ofString (toString i)).length ≤ 130
  rw [PySem.ofString_length]
  omega
theorem int_log {i : Int} (h : i.natAbs < 10 ^ 120) : i.natAbs.log2 < 1920 := by
  by_cases z : i.natAbs = 0
  · rw [z]; decide
  · exact (Nat.log2_lt z).mpr (Nat.lt_of_lt_of_le h (by decide +kernel))
mutual
theorem fits.short : ∀ d : PyData, fits d → d.leavesShort 130 = true ∧ d.showable = true ∧ d.hasDict = false
  | .none, _ => ⟨by simp only [PyData.leavesShort], by simp only [PyData.showable], by simp only [PyData.hasDict]⟩
  | .bool _, _ => ⟨by simp only [PyData.leavesShort], by simp only [PyData.showable], by simp only [PyData.hasDict]⟩
  | .int i, h => by
    have h : i.natAbs < 10 ^ 120 := by simpa only [fits] using h
    exact ⟨by simp only [PyData.leavesShort]; exact decide_eq_true (int_shown h), by simp only [PyData.showable]; exact decide_eq_true (int_log h), by simp only [PyData.hasDict]⟩
  | .str x, h => by
    have h : ∀ c ∈ x.cps.toList, c < 4294967296 := by simpa only [fits] using h
    exact ⟨by simp only [PyData.leavesShort, List.all_eq_true, decide_eq_true_eq]; exact h, by simp only [PyData.showable], by simp only [PyData.hasDict]⟩
  | .list xs, h => by
    have q := fitsAll.short xs (by simpa only [fits] using h)
    exact ⟨by simp only [PyData.leavesShort]; exact q.1, by simp only [PyData.showable]; exact q.2.1, by simp only [PyData.hasDict]; exact q.2.2⟩
  | .tuple xs, h => by
    have q := fitsAll.short xs (by simpa only [fits] using h)
    exact ⟨by simp only [PyData.leavesShort]; exact q.1, by simp only [PyData.showable]; exact q.2.1, by simp only [PyData.hasDict]; exact q.2.2⟩
  | .dict _, h => by simp only [fits] at h
theorem fitsAll.short : ∀ ds : List PyData, fitsAll ds → PyData.leavesShortAll 130 ds = true ∧ PyData.showableAll ds = true ∧ PyData.hasDictAll ds = false
  | [], _ => ⟨by simp only [PyData.leavesShortAll], by simp only [PyData.showableAll], by simp only [PyData.hasDictAll]⟩
  | d :: ds, h => by
    have h : fits d ∧ fitsAll ds := by simpa only [fitsAll] using h
    have q := fits.short d h.1
    have r := fitsAll.short ds h.2
    exact ⟨by simp only [PyData.leavesShortAll, Bool.and_eq_true]; exact ⟨q.1, r.1⟩, by simp only [PyData.showableAll, Bool.and_eq_true]; exact ⟨q.2.1, r.2.1⟩, by simp only [PyData.hasDictAll, Bool.or_eq_false_iff]; exact ⟨q.2.2, r.2.2⟩⟩
end
/-- data that repr can tell -/
structure RpOk (d : PyData) : Prop where
  f : fits d
  b : d.bulk ≤ 20000
  p : d.depth ≤ 60
theorem RpOk.len {d : PyData} (h : RpOk d) : d.shown.length ≤ 2640130 := by
  have := PyData.shown_le_bulk 130 (by decide) d (fits.short d h.f).1
  have b := h.b
  omega
mutual
theorem Dp.ex {K : PySem.W.Frag} {H H' : Hp} (x : Ex H H') : ∀ {v : V} {d : PyData}, Dp K H v d → Dp K H' v d
  | _, _, .non => .non
  | _, _, .bl b => .bl b
  | _, _, .int i => .int i
  | _, _, .str y => .str y
  | _, _, .lst h a => .lst (x.sqL h) (DpAll.ex x a)
  | _, _, .tup h a => .tup (x.sqT h) (DpAll.ex x a)
theorem DpAll.ex {K : PySem.W.Frag} {H H' : Hp} (x : Ex H H') : ∀ {vs : List V} {ds : List PyData}, DpAll K H vs ds → DpAll K H' vs ds
  | _, _, .nil => .nil
  | _, _, .cons h a => .cons (Dp.ex x h) (DpAll.ex x a)
end
section
variable {X : Cx} {W : WX} {k : Nat} {H : Hp} {v : V} {d : PyData}
def rRepr (K : PySem.W.Frag) : List V → Hp → VK → Prop := fun xs H Q => ∃ v d, xs = [v] ∧ Dp K H v d ∧ RpOk d ∧ Q (.str d.shown) H
theorem call_repr (c : Cn X W k) : CallR X (.builtin "repr") (rRepr X.K) := by
  intro pins s σ H xs us Q I r h
  obtain ⟨v, d, rfl, hd, ok, q⟩ := h
  obtain ⟨u, rfl, ru⟩ := r.one
  obtain ⟨as, rd⟩ := Dp.reads I d v u hd ru
  have z := fits.short d ok.f
  have len : d.shown.length ≤ sizeLine := Nat.le_trans ok.len (by decide)
  have room : X.A.units + (d.depth + 1) < cLine := by
    have := c.units
    have := ok.p
    omega
  have fin : ∀ h' t tk, (∀ b o, s.heap.get? b = some o → h'.get? b = some o) → EP X pins σ Q (.str d.shown t) { s with heap := h', toks := tk } := fun h' t tk hk =>
    ⟨.str d.shown, H, I.kept (fun b o e => hk b o e), ⟨t, rfl⟩, q⟩
  cases rd with
  | none => exact PySem.P.repr_of_none (fin s.heap _ _ fun _ _ e => e)
  | bool b => exact PySem.P.repr_of_bool (fin s.heap _ _ fun _ _ e => e)
  | int i t => exact PySem.P.repr_of_int (by simpa [PyData.showable] using z.2.1) (fin s.heap _ _ fun _ _ e => e)
  | str x t => exact PySem.P.repr_of_str (fin s.heap _ _ fun _ _ e => e) (by simpa only [PyData.shown] using len)
  | list h1 h2 h3 h4 => exact repr_of_reads' (.list h1 h2 h3 h4) z.2.1 (PyData.noDict_hsm z.2.2) c.gd room (fun _ _ e => e) fin len
  | tuple h1 h2 h3 h4 => exact repr_of_reads' (.tuple h1 h2 h3 h4) z.2.1 (PyData.noDict_hsm z.2.2) c.gd room (fun _ _ e => e) fin len
  | dict h1 h2 h3 h4 h5 => cases hd
theorem ec_repr (c : Cn X W k) (hd : Dp X.K H v d) (ok : RpOk d) : EC X (.builtin "repr") [v] H (.str d.shown) := ec_of (call_repr c) fun _ x _ q => ⟨v, d, rfl, Dp.ex x hd, ok, q⟩
end

/-! ## methods of lists, + -/
section
variable {X : Cx} {W : WX} {o e : Expr} {es : List Expr} {σ : St} {H : Hp} {Q : VK} {apos cpos : Pos} {l b : Addr} {xs zs : List V} {y : V}
theorem tyL {K : PySem.W.Frag} {H : Hp} {l : Addr} {xs : List V} (h : SqL K H l xs) : tyV K "list" (.ref l) H := .inl ⟨rfl, xs, h⟩
/-- o.append(e): the list may have changed while e was worked out -/
theorem we_append (ho : EV X o σ H (.ref l)) (hl : H l = some (.lst xs)) (he : WE X e σ H fun y H2 => ∃ ys, H2 l = some (.lst ys) ∧ ys.length ≤ 100000 ∧ Q .non (upd H2 l (.lst (ys ++ [y]))))
    (hbase : attributeBase o "append" X.env (eval o X.env) = eval o X.env := by rfl)
    (hfew : ((backTo cpos (starEach [e] X.env)).all (fun x => !x.1) && (backToKw cpos (keywordEach [] X.env)).all (fun x => x.1.isSome)
      && decide ([e].length + ([] : List Keyword).length + (if ([] : List Keyword).isEmpty then 0 else 1) < 30)) = true := by rfl)
    (hline : (apos.endLine == cpos.line) = true := by rfl) (hs : starEach [e] X.env = (false, eval e X.env) :: starEach [] X.env := by rfl) (hplain : (backTo cpos (starEach [] X.env)).any (·.1) = false := by rfl) :
    WE X (.Call (.Attribute o "append" apos) [e] [] cpos) σ H Q :=
  .of (pe_bm PySem.F.plainAttrs_list PySem.F.slot_list_append PySem.F.type_list_append mt_append pe_W (pa_cons pe_W pa_nil hs) hbase hfew hline hs hplain) fun H1 x =>
    (ho.we (Q := fun v H' => v = .ref l ∧ H' = H) ⟨rfl, rfl⟩).t x fun v H2 ⟨H3, x3, ev, eH⟩ => by
      subst ev; subst eH
      refine ⟨tyL (.inl (.inl (x3 _ _ hl))), he.t x3 fun y H4 ⟨H5, x5, ys, hy, hz, q⟩ => ⟨l, ys, y, rfl, rfl, x5 _ _ hy, Nat.lt_of_le_of_lt hz (by decide), _, x5.set l _, q⟩⟩
/-- o.extend(e) -/
theorem we_extend (ho : EV X o σ H (.ref l)) (hl : H l = some (.lst xs)) (he : WE X e σ H fun y H2 => ∃ b ys zs, y = .ref b ∧ H2 l = some (.lst ys) ∧ H2 b = some (.lst zs) ∧ ys.length + zs.length ≤ 1000000 ∧ Q .non (upd H2 l (.lst (ys ++ zs))))
    (hbase : attributeBase o "extend" X.env (eval o X.env) = eval o X.env := by rfl)
    (hfew : ((backTo cpos (starEach [e] X.env)).all (fun x => !x.1) && (backToKw cpos (keywordEach [] X.env)).all (fun x => x.1.isSome)
      && decide ([e].length + ([] : List Keyword).length + (if ([] : List Keyword).isEmpty then 0 else 1) < 30)) = true := by rfl)
    (hline : (apos.endLine == cpos.line) = true := by rfl) (hs : starEach [e] X.env = (false, eval e X.env) :: starEach [] X.env := by rfl) (hplain : (backTo cpos (starEach [] X.env)).any (·.1) = false := by rfl) :
    WE X (.Call (.Attribute o "extend" apos) [e] [] cpos) σ H Q :=
  .of (pe_bm PySem.F.plainAttrs_list PySem.F.slot_list_extend PySem.F.type_list_extend mt_extend pe_W (pa_cons pe_W pa_nil hs) hbase hfew hline hs hplain) fun H1 x =>
    (ho.we (Q := fun v H' => v = .ref l ∧ H' = H) ⟨rfl, rfl⟩).t x fun v H2 ⟨H3, x3, ev, eH⟩ => by
      subst ev; subst eH
      refine ⟨tyL (.inl (.inl (x3 _ _ hl))), he.t x3 fun y H4 ⟨H5, x5, b, ys, zs, ey, hy, hb, hz, q⟩ => ⟨l, b, ys, zs, rfl, by rw [ey], x5 _ _ hy, x5 _ _ hb, Nat.le_trans hz (by decide), _, x5.set l _, q⟩⟩
section
variable {D : Ends} {i j l : Nat} {x y z : Str} {a b c : Expr} {px py pz pt pos : Pos} {kt k2 pt2}
/-- a, b = x, y -/
theorem ws_par (hN : X.N.Nodup) (hi : X.N[i]? = some x) (hj : X.N[j]? = some y) (ha : WA X [a, b] σ H fun vs H1 => ∃ v w, vs = [v, w] ∧ D.nx ((σ.set i (some v)).set j (some w)) H1) (hij : i ≠ j := by decide) (hc : X.calm = true := by rfl)
    (hx : X.env.scope.names.lookup x = some .local := by rfl) (hy : X.env.scope.names.lookup y = some .local := by rfl)
    (hw : swappedStores [.Tuple [.Name x px, .Name y py] kt pt] (.Tuple [a, b] k2 pt2) X.env = pure (some [x, y]) := by rfl)
    (hs : swapsWithSole [.Tuple [.Name x px, .Name y py] kt pt] (.Tuple [a, b] k2 pt2) pos.line X.env = pure false := by rfl) :
    WS X (.Assign [.Tuple [.Name x px, .Name y py] kt pt] (.Tuple [a, b] k2 pt2) pos) D σ H :=
  .of (ps_par hc hN hi hj hij hx hy pa_W hw hs) fun H1 x1 => ha.t x1 fun vs H2 ⟨H3, x3, v, w, e, q⟩ => ⟨v, w, e, H3, x3, q⟩
end
end
/-! ## sum of bools -/
section
variable {prog : Program} {w : World} {A : Around} {R : Result → Shared → Prop} {it : Addr} {fp wr : List Addr} {n : Nat} {P : Nat → Value → Prop} {St : Nat → Heap → Prop}
end
section
variable {prog : Program} {w : World} {A : Around} {E : Value → Shared → Prop} {s : Shared} {l : Addr} {bs : List Bool} {Q : Value → Shared → Prop}
end
section
variable {X : Cx} {H : Hp} {p : Addr} {bs : List Bool}
end
/-! ## plain laws of numbers -/
theorem pow_mono {n m : Nat} (h : n ≤ m) : (2 : Int) ^ n ≤ 2 ^ m := by
  have := Nat.pow_le_pow_right (n := 2) (by decide) h
  have h2 : ((2 ^ n : Nat) : Int) ≤ ((2 ^ m : Nat) : Int) := by omega
  simpa [Int.natCast_pow] using h2
def VerOk (v : Int) : Prop := 0 ≤ v ∧ v < 1000000000000000000000000000000000000000000000000000000000000
/-- an int that is at least so much -/
def numAt (least : Int) : V → Bool
  | .int i => decide (least ≤ i)
  | _ => false
theorem bits_nat {i : Int} : ((Builtin.Int.intBits i : Nat) : Int).toNat = Builtin.Int.intBits i := Int.toNat_natCast _

/-- the lowest one of a number -/
def lowb (v : Int) : Int := Builtin.bitAnd v (-v)
theorem and_two (a b c d : Nat) (hb : b < 2) (hd : d < 2) : (2 * a + b) &&& (2 * c + d) = 2 * (a &&& c) + (b &&& d) := by
  have q : ((2 * a + b) &&& (2 * c + d)) / 2 = a &&& c := by
    rw [Nat.and_div_two, show (2 * a + b) / 2 = a by omega, show (2 * c + d) / 2 = c by omega]
  have r : ((2 * a + b) &&& (2 * c + d)) % 2 = b &&& d := by
    have := Nat.and_mod_two_pow (a := 2 * a + b) (b := 2 * c + d) (n := 1)
    rw [show (2 : Nat) ^ 1 = 2 from rfl] at this
    rw [this, show (2 * a + b) % 2 = b by omega, show (2 * c + d) % 2 = d by omega]
  omega
theorem and_pred (m : Nat) : ∀ j : Nat, (2 ^ j * (2 * m + 1)) &&& (2 ^ j * (2 * m + 1) - 1) = 2 ^ j * (2 * m)
  | 0 => by
    rw [Nat.pow_zero, Nat.one_mul, Nat.one_mul, Nat.add_sub_cancel]
    have := and_two m 1 m 0 (by decide) (by decide)
    rw [Nat.and_self] at this
    exact this
  | j + 1 => by
    have ih := and_pred m j
    have hp : 0 < 2 ^ j * (2 * m + 1) := Nat.mul_pos (Nat.pow_pos (by decide)) (Nat.succ_pos _)
    have e1 : 2 ^ (j + 1) * (2 * m + 1) = 2 * (2 ^ j * (2 * m + 1)) := by rw [Nat.pow_succ, Nat.mul_comm (2 ^ j) 2, Nat.mul_assoc]
    have e2 : 2 ^ (j + 1) * (2 * m) = 2 * (2 ^ j * (2 * m)) := by rw [Nat.pow_succ, Nat.mul_comm (2 ^ j) 2, Nat.mul_assoc]
    rw [e1, e2, ← ih]
    generalize 2 ^ j * (2 * m + 1) = u at hp ⊢
    have := and_two u 0 (u - 1) 1 (by decide) (by decide)
    rw [Nat.add_zero, show 2 * (u - 1) + 1 = 2 * u - 1 by omega] at this
    rw [this]
    rfl
theorem lowb_nat {n : Nat} (h : 0 < n) : lowb (n : Int) = (n : Int) - ((n &&& (n - 1) : Nat) : Int) := by
  unfold lowb Builtin.bitAnd
  have e1 : decide (0 ≤ (n : Int)) = true := by simp
  have e2 : decide (0 ≤ -(n : Int)) = false := by simp; omega
  rw [e1, e2]
  have e3 : (Builtin.bitNot (-(n : Int))).toNat = n - 1 := by unfold Builtin.bitNot; omega
  show (n : Int) - (((n : Int).toNat &&& (Builtin.bitNot (-(n : Int))).toNat : Nat) : Int) = _
  rw [e3, Int.toNat_natCast]
/-- the power of two that divides, while its double does not -/
theorem lowb_is {v : Int} {j : Nat} (h0 : 0 < v) (h1 : v % (2 ^ j : Int) = 0) (h2 : v % (2 * 2 ^ j : Int) ≠ 0) : lowb v = 2 ^ j := by
  obtain ⟨n, rfl⟩ := Int.eq_ofNat_of_zero_le (Int.le_of_lt h0)
  have h0 : 0 < n := by omega
  have p : (2 : Int) ^ j = ((2 ^ j : Nat) : Int) := by simp [Int.natCast_pow]
  rw [p] at h1 h2 ⊢
  have h1 : n % 2 ^ j = 0 := by have : ((n % 2 ^ j : Nat) : Int) = 0 := by rw [Int.natCast_emod]; exact h1
                                omega
  have h2 : n % (2 * 2 ^ j) ≠ 0 := fun z => h2 (by
    have : ((n % (2 * 2 ^ j) : Nat) : Int) = 0 := by rw [z]; rfl
    rw [Int.natCast_emod, Int.natCast_mul] at this
    exact this)
  obtain ⟨q, rfl⟩ := Nat.dvd_of_mod_eq_zero h1
  have ho : q % 2 = 1 := by
    rcases Nat.mod_two_eq_zero_or_one q with z | z
    · refine absurd ?_ h2
      obtain ⟨r, rfl⟩ := Nat.dvd_of_mod_eq_zero z
      rw [← Nat.mul_assoc, Nat.mul_comm (2 ^ j) 2, Nat.mul_mod_right]
    · exact z
  obtain ⟨m, rfl⟩ : ∃ m, q = 2 * m + 1 := ⟨q / 2, by omega⟩
  rw [lowb_nat h0, and_pred m j, Nat.mul_add, Nat.mul_one]
  omega
/-- the order of the versions -/
def precB (v o : Int) : Bool := if (decide (v = 0) || decide (o = 0)) = true then decide (v = 0) && decide (o > 0) else if lowb v = lowb o then decide (v > o) else decide (lowb v > lowb o)
theorem blk_fx {P : Program} {w : World} {K : PySem.W.Frag} {mg : Str → Option Value} {base : Heap} {N : List Str} {n : Str} {st : Stmt} {f : Addr} {cd : Value} {A : Around} {outer : List Env} {s : Shared} {H : Hp} {E : XK} {scope : Scope} {own : List (Str × Nat)} (h : blkC N (defScope st) scope own = true) : blkC (fx P w K mg base N n st f cd A outer s H E).N (fx P w K mg base N n st f cd A outer s H E).env.scope scope own = true := h
def Num (v : V) : Prop := ∃ n : Int, v = .int n ∧ 0 ≤ n ∧ n < 1000000000000000000000000000000000000000000000000000000000000000
theorem VerOk.num {v : Int} (h : VerOk v) : Num (.int v) := ⟨v, rfl, h.1, by have := h.2; omega⟩
theorem lowb_le {n : Int} (h : 0 < n) : 0 ≤ lowb n ∧ lowb n ≤ n := by
  obtain ⟨m, rfl⟩ := Int.eq_ofNat_of_zero_le (Int.le_of_lt h)
  rw [lowb_nat (by omega)]
  have := Nat.and_le_left (n := m) (m := m - 1)
  omega
theorem all_rep (n : Nat) : (List.replicate n true).all id = true := by simp
theorem numAt_bad {a : Int} (h : 0 ≤ a) (z : numAt 0 (.int a) = false) : False := by
  simp [numAt] at z
  omega
/-! ## calls with keywords, defaults -/
section
variable {X : Cx} {W : WX} {e : Expr} {es : List Expr} {kws : List Keyword} {σ : St} {H H1 : Hp} {Q : VK} {QA QA1 : List V → Hp → Prop} {nm : Option Str} {kpos : Pos} {v : V} {vs : List V}
/-- the keywords' values -/
def WK (X : Cx) (kws : List Keyword) (σ : St) (H : Hp) (Q : List V → Hp → Prop) : Prop :=
  ∀ H1, Ex H H1 → ∀ pos pins s, Inv X pins σ H1 s → wpAny (model X.prog X.w) X.A (evalAll ((backToKw pos (keywordEach kws X.env)).map (·.2))) (AP X pins σ (upA Q)) X.xe s
def tWK (X : Cx) (kws : List Keyword) : TA := fun σ H1 Q1 => ∃ H Q, Ex H H1 ∧ WK X kws σ H Q ∧ ∀ v H2, upA Q v H2 → Q1 v H2
theorem pk_W : PK X kws (tWK X kws) := ⟨fun pos pins s σ H1 Q1 I ⟨H, Q, x, w, k⟩ => thn (w H1 x pos pins s I) fun u s' ⟨v, H2, I2, r, q⟩ => ⟨v, H2, I2, r, k v H2 q⟩⟩
theorem WK.of {t : TA} (h : PK X kws t) (q : ∀ H1, Ex H H1 → t σ H1 (upA QA)) : WK X kws σ H QA := fun H1 x pos pins s I => h.run pos pins s σ H1 _ I (q H1 x)
theorem WK.t (w : WK X kws σ H QA) (x : Ex H H1) (k : ∀ v H2, upA QA v H2 → QA1 v H2) : tWK X kws σ H1 QA1 := ⟨H, QA, x, w, k⟩
theorem wk_nil (q : QA [] H) : WK X [] σ H QA := .of pk_nil fun H1 x => ⟨H, x, q⟩
theorem wk_cons (h : WE X e σ H fun x H1 => WK X kws σ H1 fun xs H2 => QA (x :: xs) H2) : WK X (⟨nm, e, kpos⟩ :: kws) σ H QA :=
  .of (pk_cons pe_W pk_W) fun H1 x => h.t x fun v H2 ⟨H3, x3, w⟩ => w.t x3 fun _ _ q => q
def EK (X : Cx) (kws : List Keyword) (σ : St) (H : Hp) (vs : List V) : Prop := ∀ H1, Ex H H1 → ∀ Q : List V → Hp → Prop, Q vs H1 → WK X kws σ H1 Q
theorem EK.wk (h : EK X kws σ H vs) (q : QA vs H) : WK X kws σ H QA := h H (Ex.refl H) QA q
end
/-- a def called with m positional values and the keywords ks; gV: the values in the parameters' order -/
structure CalK (P : Program) (w : World) (K : PySem.W.Frag) (mg : Str → Option Value) (base : Heap) (n : Str) (k m : Nat) (ks : List Str) (gV : List V → List V → List V) (sp : Sp) : Prop where
  ex : ∃ (f : Addr) (fd : FuncData) (ps : List Str) (g : List Value → List Value → List Value), FnG P w K mg base k f fd ps sp ∧ mg n = some (.ref f) ∧ PySem.W.keepIn K (.ref f) = true ∧ KBn K fd ps m ks g gV
section
variable {X : Cx} {W : WX} {e : Expr} {es : List Expr} {kws : List Keyword} {σ : St} {H H1 : Hp} {Q : VK} {E : XK} {v : V} {vs zs : List V} {n : Str} {k j m : Nat} {f : Addr} {fd : FuncData} {ps ks : List Str} {sp : Sp} {us ws : List Value} {p pos : Pos} {pins : List (Addr × Obj)} {s : Shared} {g : List Value → List Value → List Value} {gV : List V → List V → List V}
end
section
variable {P : Program} {w : World} {K : PySem.W.Frag} {mg : Str → Option Value} {base : Heap} {n : Str} {st : Stmt} {ps N : List Str} {k m : Nat} {sp : Sp} {ks : List Str} {kws : List (Str × V)}
/-- the same def, called with keywords: how they bind is told of its own text -/
theorem Cal.kw (C : Cal P w K mg base n k ps [] sp) (d : Def K mg n st ps) (m : Nat) (ks : List Str) (g : {α : Type} → List α → List α → List α) (hrel : ∀ {vs zs : List V} {us ws : List Value}, Vals vs us → Vals zs ws → Vals (g vs zs) (g us ws))
    (hb : ∀ (kV doc pm : Value) (an : Option Addr) (cdv ct : Value) (us ws : List Value), us.length = m → ws.length = ks.length → bindArgs (PySem.W.fnOf n n (defArgs st) (defBody st) (defScope st) .none kV doc pm an cdv ct) ⟨us, ks.zip ws⟩ = pure (ps.zip (g us ws))) : CalK P w K mg base n k m ks g sp := by
  obtain ⟨f, fd, ds, F, hm, hk, _, _, oc, od, osl, lk⟩ := C.ex
  obtain ⟨oc2, od2, kV, doc, pm, an, cd, ct, osl2, e, lk2, _⟩ := d.F.ex
  have ef := hm.symm.trans d.g
  cases ef
  have e2 := lk.symm.trans lk2
  simp only [Option.some.injEq, Obj.mk.injEq, Data.func.injEq] at e2
  have e3 : fd = d.fd := e2.2.2.1
  refine ⟨d.f, fd, ps, g, F, hm, hk, ⟨fun s us ws X l1 l2 => ?_, fun r1 r2 => hrel r1 r2⟩⟩
  rw [e3, e]
  exact .of_eq (hb kV doc pm an cd ct us ws l1 l2)
/-- a def with keyword-only parameters that have defaults, no other defaults -/
structure DefK (K : PySem.W.Frag) (mg : Str → Option Value) (n : Str) (st : Stmt) (kws : List (Str × V)) : Type where
  f : Addr
  fd : FuncData
  F : FunD K n n (defArgs st) (defBody st) (defScope st) [] kws f fd
  g : mg n = some (.ref f)
end
/-! ## wide products -/
def Wide (i : Int) : Prop := -10000000000000000000000000000000000000000000000000000000000000000000000000000000000000000000000000000 ≤ i ∧ i ≤ 10000000000000000000000000000000000000000000000000000000000000000000000000000000000000000000000000000
theorem Wide.bits {i : Int} (h : Wide i) : Builtin.Int.intBits i ≤ 400 := PyProof.Rows.intBits_le (big_lt h.1 h.2)
/-! ## the strongest versions of a range, as the program finds them -/
def oddFrom (low power : Int) : Nat → Int → List Int
  | 0, _ => []
  | n + 1, last => if (decide (last > 0) && decide (last * power ≥ low)) = true then last * power :: oddFrom low power n (last - 2) else []
def lastOf (high power : Int) : Int := if decide (high / power % 2 = 0) = true then high / power - 1 else high / power
def strL (low high : Int) (n : Nat) : Nat → List Int → List Int
  | 0, f => f
  | k + 1, f => if f.length < n then strL low high n k (f ++ oddFrom low (2 ^ k) (n - f.length) (lastOf high (2 ^ k))) else f
def strongL (low high : Int) (n : Nat) : List Int := strL low high n (Builtin.Int.intBits high + 1) (if (decide (low = 0) && decide ((n : Int) > 0)) = true then [0] else [])
theorem oddFrom_len {low power : Int} : ∀ (n : Nat) (last : Int), (oddFrom low power n last).length ≤ n
  | 0, _ => Nat.le_refl _
  | n + 1, last => by
    unfold oddFrom
    split
    · rw [List.length_cons]
      exact Nat.succ_le_succ (oddFrom_len n _)
    · exact Nat.zero_le _
theorem oddFrom_mem {low power : Int} (hp : 0 < power) : ∀ (n : Nat) (last v : Int), v ∈ oddFrom low power n last → low ≤ v ∧ 0 < v ∧ v ≤ last * power
  | 0, _, _, h => nomatch h
  | n + 1, last, v, h => by
    unfold oddFrom at h
    split at h
    · rename_i hc
      simp only [Bool.and_eq_true, decide_eq_true_eq] at hc
      rcases List.mem_cons.mp h with rfl | h
      · exact ⟨hc.2, Int.mul_pos hc.1 hp, Int.le_refl _⟩
      · obtain ⟨a, b, c⟩ := oddFrom_mem hp n _ v h
        exact ⟨a, b, Int.le_trans c (Int.mul_le_mul_of_nonneg_right (by omega) (by omega))⟩
    · cases h
theorem lastOf_le {high power : Int} (hp : 0 < power) : lastOf high power * power ≤ high := by
  have h1 : high / power * power ≤ high := Int.ediv_mul_le _ (by omega)
  unfold lastOf
  split
  · rw [Int.sub_mul, Int.one_mul]
    omega
  · exact h1
theorem strL_ok {low high : Int} {n : Nat} (h0 : 0 ≤ high) : ∀ (k : Nat) (f : List Int), f.length ≤ n → (∀ v ∈ f, 0 ≤ v ∧ v ≤ high) → (strL low high n k f).length ≤ n ∧ ∀ v ∈ strL low high n k f, 0 ≤ v ∧ v ≤ high
  | 0, f, hl, hm => ⟨hl, hm⟩
  | k + 1, f, hl, hm => by
    unfold strL
    split
    · have hp : (0 : Int) < 2 ^ k := Int.pow_pos (by decide)
      refine strL_ok h0 k _ ?_ fun v hv => ?_
      · rw [List.length_append]
        have := oddFrom_len (low := low) (power := 2 ^ k) (n - f.length) (lastOf high (2 ^ k))
        omega
      · rcases List.mem_append.mp hv with hv | hv
        · exact hm v hv
        · obtain ⟨_, b, c⟩ := oddFrom_mem hp _ _ v hv
          exact ⟨by omega, Int.le_trans c (lastOf_le hp)⟩
    · exact ⟨hl, hm⟩
theorem strongL_ok {low high : Int} {n : Nat} (h0 : 0 ≤ high) : (strongL low high n).length ≤ n ∧ ∀ v ∈ strongL low high n, 0 ≤ v ∧ v ≤ high := by
  unfold strongL
  split
  · rename_i hc
    simp only [Bool.and_eq_true, decide_eq_true_eq] at hc
    exact strL_ok h0 _ _ (by simp; omega) (by simp [h0])
  · exact strL_ok h0 _ _ (Nat.zero_le _) (by simp)
/-! ## readings: what a text asks, no machine in sight -/
abbrev RX := St → Hp → VK → WX → Prop
abbrev RT := St → Hp → (Bool → Hp → Prop) → WX → Prop
abbrev RA := St → Hp → (List V → Hp → Prop) → WX → Prop
abbrev RS := Ends → WX → St → Hp → Prop
abbrev RG := V → St → Hp → (St → Hp → Prop) → WX → Prop
abbrev RGs := List V → St → Hp → (St → Hp → Prop) → WX → Prop
abbrev RO := V → V → Hp → VK → Prop
abbrev RC := List V → Hp → VK → Prop
structure SX (X : Cx) (j : Nat) (t : RX) (e : Expr) : Prop where
  run : ∀ {W : WX}, Cn X (upW W) j → ∀ {σ H Q}, t σ H Q W → WE X e σ H Q
structure SB (X : Cx) (j : Nat) (t : RT) (e : Expr) : Prop where
  run : ∀ {W : WX}, Cn X (upW W) j → ∀ {σ H Q}, t σ H Q W → WT X e σ H Q
structure SW (X : Cx) (j : Nat) (t : RT) (e : Expr) : Prop where
  run : ∀ {W : WX}, Cn X (upW W) j → ∀ {σ H Q}, t σ H Q W → WW X e σ H Q
structure SA (X : Cx) (j : Nat) (t : RA) (es : List Expr) : Prop where
  run : ∀ {W : WX}, Cn X (upW W) j → ∀ {σ H Q}, t σ H Q W → WA X es σ H Q
structure SK (X : Cx) (j : Nat) (t : RA) (es : List Keyword) : Prop where
  run : ∀ {W : WX}, Cn X (upW W) j → ∀ {σ H Q}, t σ H Q W → WK X es σ H Q
structure SS (X : Cx) (j : Nat) (t : RS) (st : Stmt) : Prop where
  run : ∀ {W : WX}, Cn X (upW W) j → Own X → ∀ {D σ H}, t D W σ H → WS X st D σ H
structure SSs (X : Cx) (j : Nat) (t : RS) (sts : List Stmt) : Prop where
  run : ∀ {W : WX}, Cn X (upW W) j → Own X → ∀ {D σ H}, t D W σ H → WSs X sts D σ H
structure SG (X : Cx) (j : Nat) (t : RG) (tg : Expr) : Prop where
  run : ∀ {W : WX}, Cn X (upW W) j → ∀ {v σ H R}, t v σ H R W → WG X tg v σ H R
structure SGs (X : Cx) (j : Nat) (t : RGs) (tg : List Expr) : Prop where
  run : ∀ {W : WX}, Cn X (upW W) j → ∀ {v σ H R}, t v σ H R W → WGs X tg v σ H R
def SO (X : Cx) (f : Value → Value → Sem Value) (r : RO) : Prop := ∀ x y H Q, r x y H Q → WO X f x y H Q
def SC (X : Cx) (fn : Value) (r : RC) : Prop := ∀ xs H Q, r xs H Q → WC X fn xs H Q
def fg (P : Hp → Prop) (H : Hp) : Prop := ∃ H', Ex H' H ∧ P H'
theorem fg.i {P : Hp → Prop} {H : Hp} (h : P H) : fg P H := ⟨H, Ex.refl H, h⟩
/-! ## slots -/
def slot : St → Nat → Option V
  | [], _ => none
  | o :: _, 0 => o
  | _ :: l, n + 1 => slot l n
theorem slot_get : ∀ {σ : St} {i : Nat} {v : V}, slot σ i = some v → σ[i]? = some (some v)
  | o :: _, 0, _, h => by simpa [slot] using h
  | _ :: l, n + 1, _, h => by simpa using slot_get (σ := l) h
def put : St → Nat → V → St
  | [], _, _ => []
  | _ :: l, 0, v => some v :: l
  | o :: l, n + 1, v => o :: put l n v
theorem put_set : ∀ {σ : St} {i : Nat} {v : V}, put σ i v = σ.set i (some v)
  | [], _, _ => rfl
  | _ :: _, 0, _ => rfl
  | o :: l, n + 1, v => by simp [put, put_set]
section
variable {X : Cx} {j : Nat} {W W1 : WX} {e a b c : Expr} {es rest : List Expr} {st : Stmt} {sts body : List Stmt} {σ : St} {H H1 : Hp} {Q : VK} {D : Ends} {pos p pos' : Pos} {t ta tb : RX} {tc td : RT} {r : RO} {n : Str} {i : Nat}
/-! ## names, constants -/
def rVar (i : Nat) : RX := fun σ H Q _ => match slot σ i with
  | some v => Q v H
  | none => False
theorem s_var {i : Nat} {n : Str} (hN : X.N[i]? = some n) (hv : Vis X.env.scope n) (hd : (n == ("__debug__" : Str)) = false := by decide) (hcd : (n == ("__classdict__" : Str)) = false := by decide) : SX X j (rVar i) (.Name n pos) := ⟨fun c σ H Q h => by
  unfold rVar at h
  cases e : slot σ i with
  | some v => rw [e] at h; exact EV.we (ev_var hN hv (slot_get e) hd hcd) h
  | none => rw [e] at h; exact h.elim⟩
def rC (v : V) : RX := fun _ H Q _ => Q v H
theorem SX.of_ev {v : V} (h : ∀ {σ H}, EV X e σ H v) : SX X j (rC v) e := ⟨fun _ _ _ _ q => h.we q⟩
theorem s_int {i : Int} {k} : SX X j (rC (.int i)) (.Constant (.int i) k pos) := .of_ev ev_int
theorem s_bl {i : Bool} {k} : SX X j (rC (.bl i)) (.Constant (.bool i) k pos) := .of_ev ev_bl
theorem s_str {i : Str} {k} : SX X j (rC (.str i)) (.Constant (.str i) k pos) := .of_ev ev_str
theorem s_ty {n : Str} {T : String} (hm : X.mg n = none) (hv : bootBuiltins n = some (.type T)) (hg : Gl X n := by rfl) (hn : n ≠ "__name__" := by decide) (hd : (n == ("__debug__" : Str)) = false := by decide) : SX X j (rC (.ty T)) (.Name n pos) := .of_ev (ev_ty hm hv hg hn hd)
/-! ## operators -/
def rBin (r : RO) (a b : RX) : RX := fun σ H Q W => a σ H (fun x H1 => b σ H1 (fun y H2 => r x y H2 Q) W) W
theorem s_bin {op : Operator} (ho : SO X (binaryOp op) r) (ha : SX X j ta a) (hb : SX X j tb b) : SX X j (rBin r ta tb) (.BinOp a op b pos) :=
  ⟨fun c _ _ _ h => we_bin ((ha.run c h).mono fun _ _ h => (hb.run c h).mono fun _ _ h => ho _ _ _ _ h)⟩
theorem s_cmp {op : CmpOp} (ho : SO X (compareOp op) r) (ha : SX X j ta a) (hb : SX X j tb b) (hm : behindInMarks op b = false := by first | exact nomark _ | with_unfolding_all rfl) : SX X j (rBin r ta tb) (.Compare a [op] [b] pos) :=
  ⟨fun c _ _ _ h => we_cmp ((ha.run c h).mono fun _ _ h => (hb.run c h).mono fun _ _ h => ho _ _ _ _ h) hm⟩
/-- of a bool -/
def ob (Q : Bool → Hp → Prop) : VK := fun x H => match x with
  | .bl k => Q k H
  | _ => False
theorem ob.get {QB : Bool → Hp → Prop} {x : V} (h : ob QB x H) : ∃ k, x = .bl k ∧ QB k H := by
  cases x <;> first | exact ⟨_, rfl, h⟩ | exact h.elim
def tCmp (r : RO) (a b : RX) : RT := fun σ H Q W => a σ H (fun x H1 => b σ H1 (fun y H2 => r x y H2 (ob Q)) W) W
theorem WO.mono {f : Value → Value → Sem Value} {x y : V} {Q1 : VK} (w : WO X f x y H Q) (k : ∀ v H, Q v H → Q1 v H) : WO X f x y H Q1 := fun H1 e pins s σ v u I rx ry => thn (w H1 e pins s σ v u I rx ry) fun u s' ⟨v, H2, I2, r, q⟩ => ⟨v, H2, I2, r, up.mono k q⟩
theorem b_cmp {op : CmpOp} (ho : SO X (compareOp op) r) (ha : SX X j ta a) (hb : SX X j tb b) (hm : behindInMarks op b = false := by first | exact nomark _ | with_unfolding_all rfl) : SB X j (tCmp r ta tb) (.Compare a [op] [b] pos) :=
  ⟨fun c _ _ _ h => wt_cmp ((ha.run c h).mono fun _ _ h => (hb.run c h).mono fun _ _ h => (ho _ _ _ _ h).mono fun _ _ h => h.get) hm⟩
theorem WE.tt (w : WE X e σ H Q) : tWE X e σ H (up Q) := ⟨H, Q, Ex.refl H, w, fun _ _ q => q⟩
def rCh (r r2 : RO) (a b c : RX) : RX := fun σ H Q W => a σ H (fun x H1 => b σ H1 (fun y H2 => r x y H2 (ob fun k H3 => (k = true → c σ H3 (fun z H4 => r2 y z H4 Q) W) ∧ (k = false → Q (.bl false) H3))) W) W
theorem s_ch {op op' : CmpOp} {r2 : RO} {tcc : RX} (ho : SO X (compareOp op) r) (ho2 : SO X (compareOp op') r2) (ha : SX X j ta a) (hb : SX X j tb b) (hc : SX X j tcc c) (hm : lastMarks [op, op'] [b, c] = false := by with_unfolding_all rfl) : SX X j (rCh r r2 ta tb tcc) (.Compare a [op, op'] [b, c] pos) :=
  ⟨fun cn σ H Q h => .of (pe_chain op_W op_W pe_W pe_W pe_W hm) fun H2 e2 => (ha.run cn h).t e2 fun v H3 ⟨H3', x3, h⟩ => (hb.run cn h).t x3 fun u H4 ⟨H4', x4, h⟩ => (ho _ _ _ _ h).t x4 fun q H5 ⟨H5', x5, h⟩ => by
    obtain ⟨k, rfl, h1, h2⟩ := h.get
    refine ⟨k, rfl, ?_⟩
    cases k with
    | false => exact iteF ⟨_, x5, h2 rfl⟩
    | true => exact iteT ((hc.run cn (h1 rfl)).t x5 fun s H6 ⟨H6', x6, h⟩ => (ho2 _ _ _ _ h).t x6 fun z H7 h => h)⟩
def rNeg (a : RX) : RX := fun σ H Q W => a σ H (fun x H1 => match x with
  | .int i => Q (.int (-i)) H1
  | _ => False) W
theorem s_neg (ha : SX X j ta a) : SX X j (rNeg ta) (.UnaryOp .USub a pos) := ⟨fun c _ _ _ h => we_un ((ha.run c h).mono fun x H1 h => by
  cases x <;> first | exact ⟨_, un_neg, h⟩ | exact h.elim)⟩
/-! ## the operators by values -/
/-- of two ints, with what must hold of them -/
def oI (p : Int → Int → Prop) (f : Int → Int → V) : RO := fun x y H Q => match x, y with
  | .int i, .int j => p i j ∧ Q (f i j) H
  | _, _ => False
def oJ (f : Int → Int → V) : RO := fun x y H Q => match x, y with
  | .int i, .int j => Q (f i j) H
  | _, _ => False
theorem so_I {g : Value → Value → Sem Value} {p : Int → Int → Prop} {f : Int → Int → V} (h : ∀ {i j H}, p i j → EO X g (.int i) (.int j) H (f i j)) : SO X g (oI p f) := fun x y H Q q => by
  cases x <;> first | exact q.elim | skip
  cases y <;> first | exact q.elim | skip
  exact (h q.1).wo q.2
theorem so_J {g : Value → Value → Sem Value} {f : Int → Int → V} (h : ∀ {i j H}, EO X g (.int i) (.int j) H (f i j)) : SO X g (oJ f) := fun x y H Q q => by
  cases x <;> first | exact q.elim | skip
  cases y <;> first | exact q.elim | skip
  exact h.wo q
abbrev oAdd : RO := oJ fun i j => .int (i + j)
abbrev oSub : RO := oJ fun i j => .int (i - j)
abbrev oMul : RO := oI CMulX fun i j => .int (i * j)
abbrev oMod : RO := oI (fun _ j => 0 < j) fun i j => .int (i % j)
abbrev oDiv : RO := oI CDivW fun i j => .int (i / j)
abbrev oPow : RO := oI CPow fun i j => .int (i ^ j.toNat)
abbrev oShl : RO := oI CShl fun i j => .int (i * 2 ^ j.toNat)
abbrev oShr : RO := oI (fun _ j => 0 ≤ j) fun i j => .int (i / 2 ^ j.toNat)
abbrev oAnd : RO := oJ fun i j => .int (Builtin.bitAnd i j)
abbrev oLt : RO := oJ fun i j => .bl (decide (i < j))
abbrev oLe : RO := oJ fun i j => .bl (decide (i ≤ j))
abbrev oGt : RO := oJ fun i j => .bl (decide (j < i))
abbrev oGe : RO := oJ fun i j => .bl (decide (j ≤ i))
abbrev oEqI : RO := oJ fun i j => .bl (decide (i = j))
abbrev oNeI : RO := oJ fun i j => .bl (!decide (i = j))
theorem o_add : SO X (binaryOp .Add) oAdd := so_J eo_add
theorem o_sub : SO X (binaryOp .Sub) oSub := so_J eo_sub
theorem o_mul : SO X (binaryOp .Mult) oMul := so_I eo_mulX
theorem o_mod : SO X (binaryOp .Mod) oMod := so_I eo_mod
theorem o_div : SO X (binaryOp .FloorDiv) oDiv := so_I eo_fdiv
theorem o_pow : SO X (binaryOp .Pow) oPow := so_I eo_pow
theorem o_shl : SO X (binaryOp .LShift) oShl := so_I eo_shl
theorem o_and : SO X (binaryOp .BitAnd) oAnd := so_J eo_and
theorem o_lt : SO X (compareOp .Lt) oLt := so_J eo_lt
theorem o_le : SO X (compareOp .LtE) oLe := so_J eo_le
theorem o_gt : SO X (compareOp .Gt) oGt := so_J eo_gt
theorem o_ge : SO X (compareOp .GtE) oGe := so_J eo_ge
theorem o_eqI : SO X (compareOp .Eq) oEqI := so_J eo_eqI
theorem o_neI : SO X (compareOp .NotEq) oNeI := so_J eo_neI
theorem i_sub : SO X (inplaceOp .Sub) oSub := so_J ip_sub
theorem i_shr : SO X (inplaceOp .RShift) oShr := so_I ip_shr
/-- two texts -/
def oS (f : Str → Str → V) : RO := fun x y H Q => match x, y with
  | .str i, .str j => Q (f i j) H
  | _, _ => False
theorem so_S {g : Value → Value → Sem Value} {f : Str → Str → V} (h : ∀ {i j H}, EO X g (.str i) (.str j) H (f i j)) : SO X g (oS f) := fun x y H Q q => by
  cases x <;> first | exact q.elim | skip
  cases y <;> first | exact q.elim | skip
  exact h.wo q
abbrev oNeS : RO := oS fun i j => .bl (!decide (i = j))
theorem o_neS : SO X (compareOp .NotEq) oNeS := so_S eo_neS
/-! ## tests, and, or, not, if -/
def tV (t : RX) : RT := fun σ H Q W => t σ H (ob Q) W
theorem b_val (h : SX X j t e) (he : ∀ whole, isTrue e X.env whole = (do let v ← whole; standAt e.pos; holding [v] (truthy v)) := by intro _; rfl) : SB X j (tV t) e := ⟨fun c _ _ _ q => wt_val ((h.run c q).mono fun _ _ q => q.get) he⟩
def tNot (t : RT) : RT := fun σ H Q W => t σ H (fun k H1 => Q (!k) H1) W
theorem b_not (h : SB X j tc a) : SB X j (tNot tc) (.UnaryOp .Not a pos) := ⟨fun c _ _ _ q => wt_not (h.run c q)⟩
def tAnd (t u : RT) : RT := fun σ H Q W => t σ H (fun k H1 => (k = true → u σ H1 Q W) ∧ (k = false → Q false H1)) W
def tOr (t u : RT) : RT := fun σ H Q W => t σ H (fun k H1 => (k = true → Q true H1) ∧ (k = false → u σ H1 Q W)) W
theorem WT.mono {QB QB1 : Bool → Hp → Prop} (w : WT X e σ H QB) (k : ∀ v H, QB v H → QB1 v H) : WT X e σ H QB1 := fun H1 x pins s I => thn (w H1 x pins s I) fun u s' ⟨H2, I2, H3, x3, q⟩ => ⟨H2, I2, H3, x3, k _ _ q⟩
theorem w_and1 (h : SB X j tc a) : SW X j tc (.BoolOp .And [a] pos) := ⟨fun c _ _ _ q => ww_and1 (h.run c q)⟩
theorem w_or1 (h : SB X j tc a) : SW X j tc (.BoolOp .Or [a] pos) := ⟨fun c _ _ _ q => ww_or1 (h.run c q)⟩
theorem w_and (h : SB X j tc a) (h2 : SW X j td (.BoolOp .And (b :: rest) pos)) : SW X j (tAnd tc td) (.BoolOp .And (a :: b :: rest) pos) := ⟨fun c _ _ _ q => ww_and ((h.run c q).mono fun k H q => by
  cases k with
  | true => rw [if_pos rfl]; exact h2.run c (q.1 rfl)
  | false => exact iteF (q.2 rfl))⟩
theorem w_or (h : SB X j tc a) (h2 : SW X j td (.BoolOp .Or (b :: rest) pos)) : SW X j (tOr tc td) (.BoolOp .Or (a :: b :: rest) pos) := ⟨fun c _ _ _ q => ww_or ((h.run c q).mono fun k H q => by
  cases k with
  | true => exact iteT (q.1 rfl)
  | false => rw [if_neg (by decide)]; exact h2.run c (q.2 rfl))⟩
theorem b_ww (h : SW X j tc e) : SB X j tc e := ⟨fun c _ _ _ q => wt_ww (h.run c q)⟩
/-- as values (bools) -/
def rAnd (a b : RX) : RX := fun σ H Q W => a σ H (ob fun k H1 => (k = true → b σ H1 Q W) ∧ (k = false → Q (.bl false) H1)) W
def rOr (a b : RX) : RX := fun σ H Q W => a σ H (ob fun k H1 => (k = true → Q (.bl true) H1) ∧ (k = false → b σ H1 Q W)) W
theorem s_one {op} (h : SX X j t a) : SX X j t (.BoolOp op [a] pos) := ⟨fun c _ _ _ q => we_one (h.run c q)⟩
theorem s_and (h : SX X j ta a) (h2 : SX X j tb (.BoolOp .And (b :: rest) pos)) : SX X j (rAnd ta tb) (.BoolOp .And (a :: b :: rest) pos) := ⟨fun c _ _ _ q => we_andV ((h.run c q).mono fun x H q => by
  obtain ⟨k, rfl, q⟩ := q.get
  refine ⟨k, rfl, ?_⟩
  cases k with
  | true => rw [if_pos rfl]; exact h2.run c (q.1 rfl)
  | false => exact iteF (q.2 rfl))⟩
theorem s_or (h : SX X j ta a) (h2 : SX X j tb (.BoolOp .Or (b :: rest) pos)) : SX X j (rOr ta tb) (.BoolOp .Or (a :: b :: rest) pos) := ⟨fun c _ _ _ q => we_orV ((h.run c q).mono fun x H q => by
  obtain ⟨k, rfl, q⟩ := q.get
  refine ⟨k, rfl, ?_⟩
  cases k with
  | true => exact iteT (q.1 rfl)
  | false => rw [if_neg (by decide)]; exact h2.run c (q.2 rfl))⟩
def rNot (a : RX) : RX := fun σ H Q W => a σ H (ob fun k H1 => Q (.bl (!k)) H1) W
theorem s_not (h : SX X j ta a) : SX X j (rNot ta) (.UnaryOp .Not a pos) := ⟨fun c _ _ _ q => .of (pe_not pe_W) fun H2 x2 => (h.run c q).t x2 fun v H3 ⟨H4, x4, q⟩ => by
  obtain ⟨k, rfl, q⟩ := q.get
  exact ⟨k, rfl, H4, x4, q⟩⟩
def rIf (t : RT) (a b : RX) : RX := fun σ H Q W => t σ H (fun k H1 => (k = true → a σ H1 Q W) ∧ (k = false → b σ H1 Q W)) W
theorem s_if (h : SB X j tc c) (ha : SX X j ta a) (hb : SX X j tb b) : SX X j (rIf tc ta tb) (.IfExp c a b pos) := ⟨fun c _ _ _ q => we_if ((h.run c q).mono fun k H q => by
  cases k with
  | true => rw [if_pos rfl]; exact ha.run c (q.1 rfl)
  | false => rw [if_neg (by decide)]; exact hb.run c (q.2 rfl))⟩
/-! ## arguments, displays, subscripts -/
def aNil : RA := fun _ H Q _ => Q [] H
def aCons (e : RX) (r : RA) : RA := fun σ H Q W => e σ H (fun x H1 => r σ H1 (fun xs H2 => Q (x :: xs) H2) W) W
theorem WA.mono {QA QA1 : List V → Hp → Prop} (w : WA X es σ H QA) (k : ∀ v H, QA v H → QA1 v H) : WA X es σ H QA1 := fun H1 x pos pins s I => thn (w H1 x pos pins s I) fun u s' ⟨v, H2, I2, r, H3, x3, q⟩ => ⟨v, H2, I2, r, H3, x3, k _ _ q⟩
theorem a_nil : SA X j aNil [] := ⟨fun _ _ _ _ q => wa_nil q⟩
theorem a_cons {tr : RA} (h : SX X j t e) (hr : SA X j tr es) (hs : starEach (e :: es) X.env = (false, eval e X.env) :: starEach es X.env := by rfl) : SA X j (aCons t tr) (e :: es) := ⟨fun c _ _ _ q => wa_cons ((h.run c q).mono fun _ _ q => hr.run c q) hs⟩
def rLst (t : RA) : RX := fun σ H Q W => t σ H (fun xs H1 => xs.length ≤ 100000 ∧ ∀ p, H1 p = none → Q (.ref p) (upd H1 p (.lst xs))) W
def rTup (t : RA) : RX := fun σ H Q W => t σ H (fun xs H1 => xs.length ≤ 100000 ∧ ∀ p, H1 p = none → Q (.ref p) (upd H1 p (.tup xs))) W
theorem s_lst {tr : RA} (h : SA X j tr es) : SX X j (rLst tr) (.List es pos) := ⟨fun c _ _ _ q => we_lst ((h.run c q).mono fun _ _ q => ⟨small q.1, q.2⟩)⟩
theorem s_tup {tr : RA} {x1} (h : SA X j tr es) : SX X j (rTup tr) (.Tuple es x1 pos) := ⟨fun c _ _ _ q => we_tup ((h.run c q).mono fun _ _ q => ⟨small q.1, q.2⟩)⟩
def oIxL (K : PySem.W.Frag) : RO := fun x y H Q => ∃ p xs i v, x = .ref p ∧ y = .int i ∧ SqL K H p xs ∧ atI xs i = some v ∧ Q v H
def SI (X : Cx) (r : RO) : Prop := ∃ r0, IxR X r0 ∧ ∀ x y H Q, r x y H Q → ∀ H3, Ex H H3 → r0 x y H3 (up Q)
theorem x_lst : SI X (oIxL X.K) := ⟨_, ix_list, fun _ _ H _ ⟨p, xs, i, v, e1, e2, h, hi, q⟩ H3 x => ⟨p, xs, i, v, e1, e2, x.sqL h, hi, H, x, q⟩⟩
theorem s_ix (hr : SI X r) (ha : SX X j ta a) (hb : SX X j tb b) (hs : PlainIx b := by intro _ _; rfl) : SX X j (rBin r ta tb) (.Subscript a b pos) := by
  obtain ⟨r0, h0, k⟩ := hr
  exact ⟨fun c _ _ _ h => we_ix h0 ((ha.run c h).mono fun _ _ h => (hb.run c h).mono fun _ _ h => k _ _ _ _ h) hs⟩
/-! ## calls -/
def rCall (sp : Sp) (dvs : List V) (t : RA) : RX := fun σ H Q W => t σ H (fun vs H1 => sp (vs ++ dvs) H1 Q fun c d H' => W c d σ H') W
theorem run_fngU {vs dvs : List V} {k : Nat} {f : Addr} {fd : FuncData} {ps : List Str} {sp : Sp} {us ds : List Value} {pins : List (Addr × Obj)} {s : Shared} (F : FnG X.prog X.w X.K X.mg X.base k f fd ps sp) (c : Cn X (upW W) k) (hcm : X.calm = true) (hb : Binds X.K fd ps ds) (hd : Vals dvs ds) (I : Inv X pins σ H1 s) (x : Ex H H1) (r : Vals vs us) (h : sp (vs ++ dvs) H Q fun c d H' => W c d σ H') :
    wpAny (model X.prog X.w) X.A (call (.ref f) us) (EP X pins σ (up Q)) X.xe s := by
  have r2 := r.append hd
  have hl : (us ++ ds).length = ps.length := r2.length.symm.trans (F.len _ _ _ _ h)
  refine wpAny_call (codeAny_mono (F.run X.A X.stack s H1 ⟨us, []⟩ (us ++ ds) (vs ++ dvs) H Q _ (c.room hcm) c.gd I.env0 (hb s us I.kIn hl) r2 x h) fun res s' q => ?_)
  rcases res with er | fl
  · exact c.tk er s' (XE.of_call I (fun cl d H' ⟨H2, x2, q2⟩ => ⟨H2, x2, q2⟩) q)
  · cases fl with
    | ret u => exact I.after q
    | _ => exact q.elim
theorem s_call {sp : Sp} {k : Nat} {ps : List Str} {dvs : List V} {tr : RA} (C : Cal X.prog X.w X.K X.mg X.base n k ps dvs sp) (h : SA X j tr (e :: es)) (hkj : k ≤ j := by decide) (hcm : X.calm = true := by rfl) (hg : Gl X n := by rfl) (hdb : (n == ("__debug__" : Str)) = false := by decide)
    (he : starEach (e :: es) X.env = (false, eval e X.env) :: starEach es X.env := by rfl) (hpl : (backTo pos (starEach es X.env)).any (·.1) = false := by rfl) : SX X j (rCall sp dvs tr) (.Call (.Name n p) (e :: es) [] pos) := by
  obtain ⟨f, fd, ds, F, hm, hk, hb, hd, _⟩ := C.ex
  refine ⟨fun c σ H Q q H1 x pins s I => ?_⟩
  refine wpAny_Call_Name_kw (ld_glob I hg hm (PySem.W.callWith_K (h₀ := X.base) I.ok.mod.kin hk (thn (h.run c q H1 x pos pins s I) fun us s1 ⟨vs, H2, I2, r, H3, x3, q⟩ => ⟨I2.kIn, ?_⟩) he hpl) hdb)
  exact run_fngU F (c.mono hkj) hcm hb hd I2 x3 r q
theorem k_nil : SK X j aNil [] := ⟨fun _ _ _ _ q => wk_nil q⟩
theorem k_cons {kws : List Keyword} {nm : Option Str} {kpos : Pos} {tr : RA} (h : SX X j t e) (hr : SK X j tr kws) : SK X j (aCons t tr) (⟨nm, e, kpos⟩ :: kws) := ⟨fun c _ _ _ q => wk_cons ((h.run c q).mono fun _ _ q => hr.run c q)⟩
end
section
variable {X : Cx} {j : Nat} {W W1 : WX} {e a b c tg iter : Expr} {es rest tgs : List Expr} {st : Stmt} {sts body : List Stmt} {σ : St} {H H1 : Hp} {Q : VK} {D : Ends} {pos p pos' pos2 : Pos} {t ta tb : RX} {tc td : RT} {r : RO} {n : Str} {i : Nat} {zs zt : RS} {tr : RA} {rc : RC} {g g2 : RG} {gs : RGs}
/-! ## builtins by name -/
def rB (r : RC) (t : RA) : RX := fun σ H Q W => t σ H (fun vs H1 => r vs H1 Q) W
theorem s_bi {id : String} (hc : SC X (.builtin id) rc) (hm : X.mg n = none) (hv : bootBuiltins n = some (.builtin id)) (ha : SA X j tr (e :: es)) (hg : Gl X n := by rfl) (hn : n ≠ "__name__" := by decide) (hdb : (n == ("__debug__" : Str)) = false := by decide)
    (he : starEach (e :: es) X.env = (false, eval e X.env) :: starEach es X.env := by rfl) (hpl : (backTo pos (starEach es X.env)).any (·.1) = false := by rfl) : SX X j (rB rc tr) (.Call (.Name n p) (e :: es) [] pos) :=
  ⟨fun c _ _ _ q => we_callB hm hv ((ha.run c q).mono fun _ _ q => hc _ _ _ q) hg hn hdb he hpl⟩
/-- one value -/
def c1 (f : V → Hp → VK → Prop) : RC := fun vs H Q => match vs with
  | [x] => f x H Q
  | _ => False
def c2 (f : V → V → Hp → VK → Prop) : RC := fun vs H Q => match vs with
  | [x, y] => f x y H Q
  | _ => False
theorem sc1 {fn : Value} {f : V → Hp → VK → Prop} (h : ∀ x H Q, f x H Q → WC X fn [x] H Q) : SC X fn (c1 f) := fun xs H Q q => by
  cases xs with
  | nil => exact q.elim
  | cons x r => cases r with
    | nil => exact h _ _ _ q
    | cons _ _ => exact q.elim
theorem sc2 {fn : Value} {f : V → V → Hp → VK → Prop} (h : ∀ x y H Q, f x y H Q → WC X fn [x, y] H Q) : SC X fn (c2 f) := fun xs H Q q => by
  cases xs with
  | nil => exact q.elim
  | cons x r => cases r with
    | nil => exact q.elim
    | cons y r => cases r with
      | nil => exact h _ _ _ _ q
      | cons _ _ => exact q.elim
def vI (k : Int → Hp → VK → Prop) : V → Hp → VK → Prop := fun x H Q => match x with
  | .int i => k i H Q
  | _ => False
def cMax : RC := c2 (oJ fun i j => .int (if j > i then j else i))
def cMin : RC := c2 (oJ fun i j => .int (if j < i then j else i))
theorem c_max (hc : X.calm = true := by rfl) : SC X (.builtin "max") cMax := sc2 fun x y H Q q => by
  cases x <;> first | exact q.elim | skip
  cases y <;> first | exact q.elim | skip
  exact (ec_max hc).wc q
theorem c_min (hc : X.calm = true := by rfl) : SC X (.builtin "min") cMin := sc2 fun x y H Q q => by
  cases x <;> first | exact q.elim | skip
  cases y <;> first | exact q.elim | skip
  exact (ec_min hc).wc q
def cLenL (K : PySem.W.Frag) : RC := c1 fun x H Q => ∃ p xs, x = .ref p ∧ SqL K H p xs ∧ Q (.int xs.length) H
theorem c_lenL : SC X (.builtin "len") (cLenL X.K) := sc1 fun x H Q ⟨p, xs, e, h, q⟩ => by subst e; exact (ec_lenL h).wc q
def cAll (K : PySem.W.Frag) : RC := c1 fun x H Q => ∃ (p : Addr) (ns : List Bool), x = .ref p ∧ SqL K H p (ns.map V.bl) ∧ Q (.bl (ns.all id)) H
theorem c_all (hc : X.calm = true := by rfl) : SC X (.builtin "all") (cAll X.K) := sc1 fun x H Q ⟨p, xs, e, h, q⟩ => by subst e; exact (ec_all h hc).wc q
def cIsT : RC := c2 fun x y H Q => ∃ T U, Ty H x T ∧ y = .ty U ∧ (U = "int" ∨ U = "bool" ∨ U = "str" ∨ U = "list" ∨ U = "tuple" ∨ U = "dict") ∧ Q (.bl (tyIs T U)) H
theorem c_isT : SC X (.builtin "isinstance") cIsT := sc2 fun x y H Q ⟨T, U, h, e, hU, q⟩ => by subst e; exact (ec_isT h hU).wc q
def cRepr (K : PySem.W.Frag) : RC := c1 fun x H Q => ∃ d, Dp K H x d ∧ RpOk d ∧ Q (.str d.shown) H
theorem s_repr (hm : X.mg "repr" = none) (ha : SA X j tr [e]) (hg : Gl X "repr" := by rfl) (he : starEach [e] X.env = (false, eval e X.env) :: starEach [] X.env := by rfl) (hpl : (backTo pos (starEach [] X.env)).any (·.1) = false := by rfl) : SX X j (rB (cRepr X.K) tr) (.Call (.Name "repr" p) [e] [] pos) :=
  ⟨fun c _ _ _ q => we_callB hm PyProof.Rows.boot_repr ((ha.run c q).mono fun vs H q => by
    cases vs with
    | nil => exact q.elim
    | cons x r => cases r with
      | nil =>
        obtain ⟨d, h, ok, q⟩ := q
        exact (ec_repr c h ok).wc q
      | cons _ _ => exact q.elim) hg (by decide) (by decide) he hpl⟩
/-- n.bit_length() -/
def rBits (t : RX) : RX := fun σ H Q W => t σ H (fun x H1 => vI (fun i H Q => Q (.int (Builtin.Int.intBits i : Nat)) H) x H1 Q) W
theorem s_bits {apos : Pos} (ha : SX X j ta a) (hbase : attributeBase a "bit_length" X.env (eval a X.env) = eval a X.env := by rfl) (hline : (apos.endLine == pos.line) = true := by rfl) : SX X j (rBits ta) (.Call (.Attribute a "bit_length" apos) [] [] pos) := ⟨fun c _ _ _ q =>
  .of (pe_bits pe_W hbase hline) fun H2 x2 => (ha.run c q).t x2 fun v H3 ⟨H4, x4, q⟩ => by
    cases v <;> first | exact ⟨_, rfl, H4, x4, q⟩ | exact q.elim⟩
/-! ## methods of lists -/
/-- the receiver is a name -/
def rAppV (i : Nat) (e : RX) : RX := fun σ H Q W => match slot σ i with
  | some (.ref l) => (∃ xs, H l = some (.lst xs)) ∧ e σ H (fun y H2 => ∃ ys, H2 l = some (.lst ys) ∧ ys.length ≤ 100000 ∧ Q .non (upd H2 l (.lst (ys ++ [y])))) W
  | _ => False
theorem s_appV {apos cpos : Pos} (hN : X.N[i]? = some n) (hv : Vis X.env.scope n) (he : SX X j t e) (hd : (n == ("__debug__" : Str)) = false := by decide) (hcd : (n == ("__classdict__" : Str)) = false := by decide)
    (hbase : attributeBase (.Name n p) "append" X.env (eval (.Name n p) X.env) = eval (.Name n p) X.env := by rfl)
    (hfew : ((backTo cpos (starEach [e] X.env)).all (fun x => !x.1) && (backToKw cpos (keywordEach [] X.env)).all (fun x => x.1.isSome)
      && decide ([e].length + ([] : List Keyword).length + (if ([] : List Keyword).isEmpty then 0 else 1) < 30)) = true := by rfl)
    (hline : (apos.endLine == cpos.line) = true := by rfl) (hs : starEach [e] X.env = (false, eval e X.env) :: starEach [] X.env := by rfl) (hplain : (backTo cpos (starEach [] X.env)).any (·.1) = false := by rfl) :
    SX X j (rAppV i t) (.Call (.Attribute (.Name n p) "append" apos) [e] [] cpos) := ⟨fun c _ _ _ q => by
  unfold rAppV at q
  split at q
  · rename_i l h
    obtain ⟨⟨xs, hl⟩, q⟩ := q
    exact we_append (ev_var hN hv (slot_get h) hd hcd) hl (he.run c q) hbase hfew hline hs hplain
  · exact q.elim⟩
def rExtV (i : Nat) (e : RX) : RX := fun σ H Q W => match slot σ i with
  | some (.ref l) => (∃ xs, H l = some (.lst xs)) ∧ e σ H (fun y H2 => ∃ b ys zs, y = .ref b ∧ H2 l = some (.lst ys) ∧ H2 b = some (.lst zs) ∧ ys.length + zs.length ≤ 1000000 ∧ Q .non (upd H2 l (.lst (ys ++ zs)))) W
  | _ => False
theorem s_extV {apos cpos : Pos} (hN : X.N[i]? = some n) (hv : Vis X.env.scope n) (he : SX X j t e) (hd : (n == ("__debug__" : Str)) = false := by decide) (hcd : (n == ("__classdict__" : Str)) = false := by decide)
    (hbase : attributeBase (.Name n p) "extend" X.env (eval (.Name n p) X.env) = eval (.Name n p) X.env := by rfl)
    (hfew : ((backTo cpos (starEach [e] X.env)).all (fun x => !x.1) && (backToKw cpos (keywordEach [] X.env)).all (fun x => x.1.isSome)
      && decide ([e].length + ([] : List Keyword).length + (if ([] : List Keyword).isEmpty then 0 else 1) < 30)) = true := by rfl)
    (hline : (apos.endLine == cpos.line) = true := by rfl) (hs : starEach [e] X.env = (false, eval e X.env) :: starEach [] X.env := by rfl) (hplain : (backTo cpos (starEach [] X.env)).any (·.1) = false := by rfl) :
    SX X j (rExtV i t) (.Call (.Attribute (.Name n p) "extend" apos) [e] [] cpos) := ⟨fun c _ _ _ q => by
  unfold rExtV at q
  split at q
  · rename_i l h
    obtain ⟨⟨xs, hl⟩, q⟩ := q
    exact we_extend (ev_var hN hv (slot_get h) hd hcd) hl (he.run c q) hbase hfew hline hs hplain
  · exact q.elim⟩
/-! ## statements -/
def zNil : RS := fun D _ σ H => D.nx σ H
def zCons (s r : RS) : RS := fun D W σ H => s { D with nx := fun σ' H' => r D W σ' H' } W σ H
theorem WS.nx {D : Ends} {M : St → Hp → Prop} (h : WS X st { D with nx := M } σ H) (k : ∀ σ' H', M σ' H' → D.nx σ' H') : WS X st D σ H := WS.le h (.i (fun _ _ m => k _ _ m) (fun _ _ q => q) (fun _ _ q => q) fun _ _ q => q)
theorem z_nil : SSs X j zNil [] := ⟨fun _ _ _ _ _ q => wss_nil q⟩
theorem z_cons (h : SS X j zs st) (hr : SSs X j zt sts) : SSs X j (zCons zs zt) (st :: sts) := ⟨fun {W} c o D σ H q => wss_cons (WS.nx (h.run c o q) fun _ _ q => hr.run c o q)⟩
theorem z_one (h : SS X j zs st) : SSs X j zs [st] := ⟨fun c o _ _ _ q => wss_one (h.run c o q)⟩
def zExpr (e : RX) : RS := fun D W σ H => e σ H (fun _ H1 => D.nx σ H1) W
theorem z_expr (h : SX X j t e) (hs : swapsWith e none pos.line X.env = pure false := by rfl) : SS X j (zExpr t) (.Expr e pos) := ⟨fun c _ _ _ _ q => ws_expr (h.run c q) hs⟩
def zRet (e : RX) : RS := fun D W σ H => e σ H D.rt W
theorem z_ret (h : SX X j t e) : SS X j (zRet t) (.Return (some e) pos) := ⟨fun c _ _ _ _ q => ws_ret (h.run c q)⟩
def zIf (t : RT) (a b : RS) : RS := fun D W σ H => t σ H (fun k H1 => (k = true → a D W σ H1) ∧ (k = false → b D W σ H1)) W
theorem z_if (h : SB X j tc c) (ha : SSs X j zs sts) (hb : SSs X j zt body) : SS X j (zIf tc zs zt) (.If c sts body pos) := ⟨fun cn o _ _ _ q => ws_if ((h.run cn q).mono fun k H q => by
  cases k with
  | true => rw [if_pos rfl]; exact ha.run cn o (q.1 rfl)
  | false => rw [if_neg (by decide)]; exact hb.run cn o (q.2 rfl))⟩
def zSet (i : Nat) (e : RX) : RS := fun D W σ H => e σ H (fun x H1 => D.nx (put σ i x) H1) W
theorem z_set (hN : X.N.Nodup) (hi : X.N[i]? = some n) (h : SX X j t e) (hx : Loc X.env.scope n := by first | exact .inl rfl | exact .inr rfl) (hs : swapsWith e (some (.Name n pos')) pos.line X.env = pure false := by rfl)
    (hf : X.fn n = true ∨ X.env.scope.names.lookup n = some .local := by first | exact .inl rfl | exact .inr rfl | assumption) : SS X j (zSet i t) (.Assign [.Name n pos'] e pos) :=
  ⟨fun c _ _ _ _ q => ws_set hN hi ((h.run c q).mono fun _ _ q => by rw [← put_set]; exact q) hx hs hf⟩
def zAug (i : Nat) (r : RO) (e : RX) : RS := fun D W σ H => match slot σ i with
  | some x => e σ H (fun y H1 => r x y H1 fun z H2 => D.nx (put σ i z) H2) W
  | none => False
theorem z_aug {op : Operator} (ho : SO X (inplaceOp op) r) (hN : X.N.Nodup) (hi : X.N[i]? = some n) (h : SX X j t e) (hl : Loc X.env.scope n := by first | exact .inl rfl | exact .inr rfl)
    (hf : X.fn n = true ∨ X.env.scope.names.lookup n = some .local := by first | exact .inl rfl | exact .inr rfl | assumption) : SS X j (zAug i r t) (.AugAssign (.Name n pos') op e pos) := ⟨fun c _ _ _ _ q => by
  unfold zAug at q
  split at q
  · rename_i x hs
    exact ws_aug hN hi (slot_get hs) ((h.run c q).mono fun _ _ q => ho _ _ _ _ (by simpa only [put_set] using q)) hl hf
  · exact q.elim⟩
/-! ## targets -/
def gName (i : Nat) : RG := fun v σ H R _ => R (put σ i v) H
theorem g_name (hN : X.N.Nodup) (hi : X.N[i]? = some n) (hx : Loc X.env.scope n := by first | exact .inl rfl | exact .inr rfl) (hf : X.fn n = true ∨ X.env.scope.names.lookup n = some .local := by first | exact .inl rfl | exact .inr rfl | assumption) : SG X j (gName i) (.Name n pos) :=
  ⟨fun c _ _ _ _ q => wg_name hN hi (by rw [← put_set]; exact q) hx hf⟩
def gNil : RGs := fun vs σ H R _ => vs = [] ∧ R σ H
def gCons (g : RG) (r : RGs) : RGs := fun vs σ H R W => match vs with
  | v :: vs => g v σ H (fun σ1 H1 => r vs σ1 H1 R W) W
  | [] => False
theorem gs_nil : SGs X j gNil [] := ⟨fun c _ _ _ _ q => by
  obtain ⟨rfl, q⟩ := q
  exact wgs_nil q⟩
theorem gs_cons (h : SG X j g tg) (hr : SGs X j gs tgs) (hs : (assignEach (tg :: tgs) X.env).map (·.2) = assign tg X.env :: (assignEach tgs X.env).map (·.2) := by rfl) : SGs X j (gCons g gs) (tg :: tgs) := ⟨fun c v _ _ _ q => by
  cases v with
  | nil => exact q.elim
  | cons v vs => exact wgs_cons ((h.run c q).mono fun _ _ q => hr.run c q) hs⟩
def gTup (K : PySem.W.Frag) (n : Nat) (g : RGs) : RG := fun v σ H R W => ∃ t vs, v = .ref t ∧ (SqT K H t vs ∨ SqL K H t vs) ∧ vs.length = n ∧ g vs σ H R W
theorem g_tup {k : Nat} (h : SGs X j gs tgs) (hc : X.calm = true := by rfl) (hst : (assignEach tgs X.env).findIdx? (·.1) = none := by rfl) : SG X j (gTup X.K (assignEach tgs X.env).length gs) (.Tuple tgs k pos) := ⟨fun c _ _ _ _ ⟨t, vs, e, hs, hl, q⟩ => by
  subst e
  rcases hs with hs | hs
  · exact wg_tup hs (h.run c q) hc hl.symm hst
  · exact wg_lst hs (h.run c q) hc hl.symm hst⟩
def zAsg (e : RX) (g : RG) : RS := fun D W σ H => e σ H (fun x H1 => g x σ H1 D.nx W) W
theorem z_asg (h : SX X j t e) (hg : SG X j g tg) (hs : swapsWithSole [tg] e pos.line X.env = pure false := by rfl) (hw : swappedStores [tg] e X.env = pure none := by rfl)
    (h1 : (assignEach [tg] X.env).map (·.2) = [assign tg X.env] := by rfl) : SS X j (zAsg t g) (.Assign [tg] e pos) := ⟨fun c _ _ _ _ q => ws_asg ((h.run c q).mono fun _ _ q => hg.run c q) hs hw h1⟩
/-- a, b = x, y -/
def zPar (i l : Nat) (t : RA) : RS := fun D W σ H => t σ H (fun vs H1 => match vs with
  | [v, w] => D.nx (put (put σ i v) l w) H1
  | _ => False) W
theorem z_par {l : Nat} {y : Str} {px py pt pt2 : Pos} {kt k2} (hN : X.N.Nodup) (hi : X.N[i]? = some n) (hj : X.N[l]? = some y) (ha : SA X j tr [a, b]) (hij : i ≠ l := by decide) (hc : X.calm = true := by rfl)
    (hx : X.env.scope.names.lookup n = some .local := by rfl) (hy : X.env.scope.names.lookup y = some .local := by rfl)
    (hw : swappedStores [.Tuple [.Name n px, .Name y py] kt pt] (.Tuple [a, b] k2 pt2) X.env = pure (some [n, y]) := by rfl)
    (hs : swapsWithSole [.Tuple [.Name n px, .Name y py] kt pt] (.Tuple [a, b] k2 pt2) pos.line X.env = pure false := by rfl) :
    SS X j (zPar i l tr) (.Assign [.Tuple [.Name n px, .Name y py] kt pt] (.Tuple [a, b] k2 pt2) pos) := ⟨fun c _ _ _ _ q => ws_par hN hi hj ((ha.run c q).mono fun vs H q => by
      match vs, q with
      | [v, w], q => exact ⟨v, w, rfl, by simpa only [put_set] using q⟩) hij hc hx hy hw hs⟩
/-! ## raise -/
def zRaise (C : Addr) (t : RA) : RS := fun D W σ H => t σ H (fun vs H1 => vs.length ≤ 1000 ∧ W (.ref C) none σ H1) W
theorem z_raise {C : Addr} (T : ErrC X.K X.mg n C) (ha : SA X j tr (e :: es)) (hg : Gl X n := by rfl) (hdb : (n == ("__debug__" : Str)) = false := by decide)
    (he : starEach (e :: es) X.env = (false, eval e X.env) :: starEach es X.env := by rfl) (hpl : (backTo pos (starEach es X.env)).any (·.1) = false := by rfl) (hc : X.calm = true := by rfl) : SS X j (zRaise C tr) (.Raise (some (.Call (.Name n p) (e :: es) [] pos)) none pos') :=
  ⟨fun c _ _ _ _ q => ws_raise c (wm_err T ((ha.run c q).mono fun _ _ q => ⟨q.1, ⟨_, Ex.refl _, q.2⟩⟩) hg hdb he hpl) hc⟩
/-! ## loops -/
structure ItOk (J : It) (n : Nat) (G : Hp → Prop) (Y : Nat → Hp → VK → Prop) : Prop where
  ex : ∃ G0 Y0, Walk J n G0 Y0 ∧ (∀ H H1, G H → Ex H H1 → G0 H1) ∧ ∀ i H H1 x H1' K, i < n → Ex H H1 → Y0 i H1 x H1' → Y i H K → up K x H1'
abbrev RI := St → Hp → (Nat → (Hp → Prop) → (Nat → Hp → VK → Prop) → Hp → Prop) → WX → Prop
structure SIt (X : Cx) (j : Nat) (t : RI) (tg iter : Expr) : Prop where
  ex : ∃ wi, PI X tg iter wi ∧ ∀ {W}, Cn X (upW W) j → ∀ {σ H R}, t σ H R W → ∀ H1, Ex H H1 → ∀ F : It → Hp → Prop, (∀ J H2 H' n G Y, Ex H' H2 → ItOk J n G Y → R n G Y H' → F J H2) → wi σ H1 F
def yAt (xs : List V) : Nat → Hp → VK → Prop := fun i H k => ∀ x, xs[i]? = some x → k x H
theorem ItOk.at {J : It} {n : Nat} {G : Hp → Prop} {xs : List V} (w : Walk J n G (YAt xs)) (hG : ∀ H H1, G H → Ex H H1 → G H1) : ItOk J n G (yAt xs) := ⟨_, _, w, hG, fun i H H1 x H1' K hi e y q => by
  obtain ⟨rfl, y⟩ := y
  exact ⟨H, e, q x y⟩⟩
def iL (K : PySem.W.Frag) (e : RX) : RI := fun σ H R W => e σ H (fun x H1 => ∃ a xs, x = .ref a ∧ SqL K H1 a xs ∧ R xs.length (fun H => SqL K H a xs) (yAt xs) H1) W
theorem i_L (h : SX X j t iter) : SIt X j (iL X.K t) tg iter := ⟨_, pi_list pe_W, fun c σ H R q H1 x F k => (h.run c q).t x fun v H2 ⟨H3, x3, a, xs, e, hs, q⟩ => ⟨a, e, ⟨xs, x3.sqL hs⟩, k _ _ _ _ _ _ x3 (.at walk_list fun _ _ h x => x.sqL h) q⟩⟩
def iR1 (t : RA) : RI := fun σ H R W => t σ H (fun vs H1 => match vs with
  | [.int n] => (-(2 ^ 62) ≤ n ∧ n < 2 ^ 62) ∧ R n.toNat (fun _ => True) (fun i H k => k (.int i) H) H1
  | _ => False) W
theorem i_R1 (hm : X.mg "range" = none) (h : SA X j tr [a]) (hg : Gl X "range" := by rfl) (hs : starEach [a] X.env = [(false, eval a X.env)] := by rfl) : SIt X j (iR1 tr) tg (.Call (.Name "range" p) [a] [] pos) :=
  ⟨_, pi_range1 hg hm pa_W hs, fun c σ H R q H1 x F k => (h.run c q).t x fun vs H2 ⟨H3, x3, q⟩ => by
    match vs, q with
    | [.int n], q => exact ⟨n, rfl, q.1.1, q.1.2, k _ _ _ _ _ _ x3 ⟨_, _, walk_range, fun _ _ _ _ => trivial, fun i H H1 x H1' K hi e y q => by
        obtain ⟨rfl, rfl⟩ := y
        refine ⟨H, e, ?_⟩
        show K (.int (0 + (i : Int))) H
        rw [Int.zero_add]
        exact q⟩ q.2⟩⟩
def ForP (n : Nat) (G : Hp → Prop) (Y : Nat → Hp → VK → Prop) (g : RG) (body : RS) (D : Ends) (W : WX) (σ : St) (H1 : Hp) : Prop := ∃ Pv : Nat → St → Hp → Prop, Pv 0 σ H1 ∧ (∀ i σ' H', i ≤ n → Pv i σ' H' → G H') ∧
  (∀ i σ' H', i < n → Pv i σ' H' → Y i H' fun x H2 => g x σ' H2 (fun σ3 H3 => body { D with nx := fun σ4 H4 => fg (Pv (i + 1) σ4) H4, ct := fun σ4 H4 => fg (Pv (i + 1) σ4) H4, bk := D.nx } W σ3 H3) W) ∧ ∀ σ' H', Pv n σ' H' → D.nx σ' H'
@[irreducible] def ForB (n : Nat) (G : Hp → Prop) (Y : Nat → Hp → VK → Prop) (g : RG) (body : RS) (D : Ends) (W : WX) (σ : St) (H1 : Hp) : Prop := ForP n G Y g body D W σ H1
theorem ForB.out {n : Nat} {G : Hp → Prop} {Y : Nat → Hp → VK → Prop} {g : RG} {body : RS} {D : Ends} {W : WX} {σ : St} {H1 : Hp} (h : ForB n G Y g body D W σ H1) : ForP n G Y g body D W σ H1 := by
  unfold ForB at h
  exact h
/-- a for by its invariant (turn, slots, heap) -/
theorem forB {n : Nat} {G : Hp → Prop} {Y : Nat → Hp → VK → Prop} {g : RG} {body : RS} {D : Ends} {W : WX} {σ : St} {H1 : Hp} (Pv : Nat → St → Hp → Prop) (h0 : Pv 0 σ H1) (hG : ∀ i σ' H', i ≤ n → Pv i σ' H' → G H')
    (turn : ∀ i σ' H', i < n → Pv i σ' H' → Y i H' fun x H2 => g x σ' H2 (fun σ3 H3 => body { D with nx := fun σ4 H4 => fg (Pv (i + 1) σ4) H4, ct := fun σ4 H4 => fg (Pv (i + 1) σ4) H4, bk := D.nx } W σ3 H3) W) (done : ∀ σ' H', Pv n σ' H' → D.nx σ' H') : ForB n G Y g body D W σ H1 := by
  unfold ForB
  exact ⟨Pv, h0, hG, turn, done⟩
def zFor (it : RI) (g : RG) (body : RS) : RS := fun D W σ H => it σ H (fun n G Y H1 => ForB n G Y g body D W σ H1) W
theorem z_for {it : RI} (hi : SIt X j it tg iter) (hg : SG X j g tg) (hb : SSs X j zs body) (hc : X.calm = true := by rfl) (hs : ∀ x, foldedSetIterable iter X.env x = pure x := by intro _; rfl) : SS X j (zFor it g zs) (.For tg iter body [] pos) := by
  obtain ⟨wi, pi, k⟩ := hi.ex
  refine ⟨fun {W} c o D σ H q => .of (ps_for o hc pi pg_W pss_W hs) fun H1 x => ?_⟩
  refine k c q H1 x _ fun J H2 H' n G Y x2 hJ hb0 => ?_
  obtain ⟨Pv, h0, hG, hs, hd⟩ := hb0.out
  obtain ⟨G0, Y0, wk, hG0, hY⟩ := hJ.ex
  refine for_it wk (fun i => upS (Pv i)) ⟨H', x2, h0⟩ (fun i σ' H3 hi ⟨H4, x4, p⟩ => hG0 _ _ (hG i σ' H4 hi p) x4) (fun i y σ' H3 H3' hi ⟨H4, x4, p⟩ hy => ?_) fun σ' H3 ⟨H4, x4, p⟩ => ⟨H4, x4, hd _ _ p⟩
  obtain ⟨H5, x5, q5⟩ := hY i H4 H3 y H3' _ hi x4 hy (hs i σ' H4 hi p)
  exact (hg.run c q5).t x5 fun σ6 H6 ⟨H7, x7, q7⟩ => ⟨H7, _, x7, hb.run c o q7, ⟨fun _ _ ⟨H8, x8, H9, x9, q⟩ => ⟨H9, x9.trans x8, q⟩, fun _ _ q => q, fun _ _ q => q, fun _ _ ⟨H8, x8, H9, x9, q⟩ => ⟨H9, x9.trans x8, q⟩⟩⟩
/-- while: a measure that falls, an invariant -/
def zWhile (tc : RT) (body : RS) : RS := fun D W σ H => ∃ (Pv : Nat → St → Hp → Prop) (m : Nat), Pv m σ H ∧ ∀ m σ' H', Pv m σ' H' → tc σ' H' (fun k H2 =>
  (k = true → body { D with nx := fun σ3 H3 => ∃ m', m' < m ∧ fg (Pv m' σ3) H3, ct := fun σ3 H3 => ∃ m', m' < m ∧ fg (Pv m' σ3) H3, bk := D.nx } W σ' H2) ∧ (k = false → D.nx σ' H2)) W
theorem z_while (h : SB X j tc c) (hb : SSs X j zs body) : SS X j (zWhile tc zs) (.While c body [] pos) := ⟨fun {W} cn o D σ H ⟨Pv, m, h0, hs⟩ => by
  refine ws_while (cn.t o) (fun m σ' H' => fg (Pv m σ') H') m (.i h0) fun m σ' H' ⟨H2, x2, p⟩ => ?_
  refine WT.mono (QB := fun k H2 => (k = true → zs { D with nx := fun σ3 H3 => ∃ m', m' < m ∧ fg (Pv m' σ3) H3, ct := fun σ3 H3 => ∃ m', m' < m ∧ fg (Pv m' σ3) H3, bk := D.nx } W σ' H2) ∧ (k = false → D.nx σ' H2)) (fun H1 x => h.run cn (hs m σ' H2 p) H1 (x2.trans x)) fun k H q => ?_
  cases k with
  | true => rw [if_pos rfl]; exact hb.run cn o (q.1 rfl)
  | false => exact iteF (q.2 rfl)⟩
/-! ## comprehensions -/
theorem Cn.blkU {k : Nat} {W1 : WX} (c : Cn X W k) (s : Shared) (H : Hp) (scope : Scope) (C : Addr) (cl : List (Str × Addr)) (fp : List Addr) : Cn (X.blk s H scope (compEnvC scope cl C X.env) fp) (upW fun _ _ _ _ => False) k :=
  ⟨c.room, c.un, c.gd, fun u s' ⟨a, B, sI, pins, σ, H, cls, d, e, I, nb, up, sky, na, os, ag, w⟩ => w.elim fun _ w => w.2.elim, fun _ _ _ _ _ z _ => z.elim fun _ w => w.2.elim⟩
def noW : WX := fun _ _ _ _ => False
def tY : RT := fun _ H Q _ => Q true H
/-- [elt for tg in it if tc] -/
def LcP (n : Nat) (G : Hp → Prop) (Y : Nat → Hp → VK → Prop) (g : RG) (tc : RT) (elt : RX) (vs : List Nat) (σ : St) (H1 : Hp) (Q : VK) : Prop := ∃ Pv : Nat → List V → Hp → Prop, Pv 0 [] H1 ∧ (∀ i acc H', i ≤ n → Pv i acc H' → G H' ∧ acc.length < 100000) ∧
  (∀ i acc H' d, i < n → Pv i acc H' → H' d = none → Y i (upd H' d (.lst acc)) fun x H2 => g x (wipe σ vs) H2 (fun σ3 H3 => wipe σ3 vs = wipe σ vs ∧ tc σ3 H3 (fun k H4 =>
    (k = true → elt σ3 H4 (fun y H5 => ∃ H6, H6 d = none ∧ Ex (upd H6 d (.lst acc)) H5 ∧ Pv (i + 1) (acc ++ [y]) H6) noW) ∧ (k = false → ∃ H6, H6 d = none ∧ Ex (upd H6 d (.lst acc)) H4 ∧ Pv (i + 1) acc H6)) noW) noW) ∧
  ∀ acc H' q, Pv n acc H' → H' q = none → Q (.ref q) (upd H' q (.lst acc))
@[irreducible] def LcB (n : Nat) (G : Hp → Prop) (Y : Nat → Hp → VK → Prop) (g : RG) (tc : RT) (elt : RX) (vs : List Nat) (σ : St) (H1 : Hp) (Q : VK) : Prop := LcP n G Y g tc elt vs σ H1 Q
theorem LcB.out {n : Nat} {G : Hp → Prop} {Y : Nat → Hp → VK → Prop} {g : RG} {tc : RT} {elt : RX} {vs : List Nat} {σ : St} {H1 : Hp} {Q : VK} (h : LcB n G Y g tc elt vs σ H1 Q) : LcP n G Y g tc elt vs σ H1 Q := by
  unfold LcB at h
  exact h
/-- a comprehension by its invariant (turn, the list so far, the heap without it) -/
theorem lcB {n : Nat} {G : Hp → Prop} {Y : Nat → Hp → VK → Prop} {g : RG} {tc : RT} {elt : RX} {vs : List Nat} {σ : St} {H1 : Hp} {Q : VK} (Pv : Nat → List V → Hp → Prop) (h0 : Pv 0 [] H1) (hG : ∀ i acc H', i ≤ n → Pv i acc H' → G H' ∧ acc.length < 100000)
    (turn : ∀ i acc H' d, i < n → Pv i acc H' → H' d = none → Y i (upd H' d (.lst acc)) fun x H2 => g x (wipe σ vs) H2 (fun σ3 H3 => wipe σ3 vs = wipe σ vs ∧ tc σ3 H3 (fun k H4 =>
    (k = true → elt σ3 H4 (fun y H5 => ∃ H6, H6 d = none ∧ Ex (upd H6 d (.lst acc)) H5 ∧ Pv (i + 1) (acc ++ [y]) H6) noW) ∧ (k = false → ∃ H6, H6 d = none ∧ Ex (upd H6 d (.lst acc)) H4 ∧ Pv (i + 1) acc H6)) noW) noW)
    (done : ∀ acc H' q, Pv n acc H' → H' q = none → Q (.ref q) (upd H' q (.lst acc))) : LcB n G Y g tc elt vs σ H1 Q := by
  unfold LcB
  exact ⟨Pv, h0, hG, turn, done⟩
/-- [elt for tg in it if tc] -/
def rLc (it : RI) (g : RG) (tc : RT) (elt : RX) (vs : List Nat) : RX := fun σ H Q W => it σ H (fun n G Y H1 => LcB n G Y g tc elt vs σ H1 Q) W
structure SBs (X : Cx) (j : Nat) (t : RT) (ifs : List Expr) : Prop where
  run : ∀ {W : WX}, Cn X (upW W) j → ∀ {σ H Q}, t σ H Q W → ∀ H1, Ex H H1 → ∀ pins s, Inv X pins σ H1 s → ∀ (Qf : Bool → Hp → Prop), (∀ k H2, upB Q k H2 → Qf k H2) → True
/-- a text within the block -/
def eBW (X : Cx) (scope : Scope) (t : RX) (e : Expr) : TE := fun σ H1 Q1 => ∃ H Q, Ex H H1 ∧ t σ H Q noW ∧ ∀ v H2, up Q v H2 → Q1 v H2
def tBW (X : Cx) (scope : Scope) (t : RT) (e : Expr) : TT := fun σ H1 Q1 => ∃ H Q, Ex H H1 ∧ t σ H Q noW ∧ ∀ v H2, upB Q v H2 → Q1 v H2
def gBW (X : Cx) (scope : Scope) (g : RG) (tg : Expr) : TG := fun v σ H1 R1 => ∃ H R, Ex H H1 ∧ g v σ H R noW ∧ ∀ σ' H2, upS R σ' H2 → R1 σ' H2
theorem lc_ok {scope : Scope} {own : List (Str × Nat)} {it : RI} {elt : Expr} {ifs : List Expr} {te : RX} (cn : Cn X (upW W) j) (hi : SIt X j it tg iter) (hg : InB X scope fun Y => SG Y j g tg) (ht : ∀ (s : Shared) (H : Hp) (C : Addr) (cl : List (Str × Addr)) (fp : List Addr), PTs (X.blk s H scope (compEnvC scope cl C X.env) fp) ifs (tBW X scope tc iter)) (he : InB X scope fun Y => SX Y j te elt)
    (q : rLc it g tc te (own.map (·.2)) σ H Q W) : ∃ wi, PI X tg iter wi ∧ ∀ H1, Ex H H1 → tLc wi (gBW X scope g tg) (tBW X scope tc iter) (eBW X scope te elt) (own.map (·.2)) σ H1 (up Q) := by
  obtain ⟨wi, pi, k⟩ := hi.ex
  refine ⟨wi, pi, fun H1 x => ?_⟩
  refine k cn q H1 x _ fun J H2 H' n G Y x2 hJ hb0 D hD => ?_
  obtain ⟨Pv, h0, hG, hs, hd⟩ := hb0.out
  obtain ⟨G0, Y0, wk, hG0, hY⟩ := hJ.ex
  refine lc_it wk (fun i H4 => ∃ acc H5, H5 D = none ∧ Ex (upd H5 D (.lst acc)) H4 ∧ Pv i acc H5) ⟨[], H', x2.free hD, x2.set D _, h0⟩ (fun i H4 hi ⟨acc, H5, n5, x5, p⟩ => hG0 _ _ (hG i acc H5 hi p).1 ((Ex.put n5).trans x5)) (fun i y H4 H4' hi ⟨acc, H5, n5, x5, p⟩ hy => ?_) fun H4 ⟨acc, H5, n5, x5, p⟩ => ⟨_, x5, hd acc H5 D p n5⟩
  obtain ⟨H6, x6, q6⟩ := hY i _ H4 y H4' _ hi x5 hy (hs i acc H5 D hi p n5)
  have hz := (hG i acc H5 (Nat.le_of_lt hi) p).2
  refine ⟨H6, _, x6, q6, fun σ7 H7 ⟨H8, x8, ew, q8⟩ => ⟨ew, H8, _, x8, q8, fun b H9 ⟨H10, x10, q10⟩ => ?_⟩⟩
  cases b with
  | true =>
    rw [if_pos rfl]
    refine ⟨H10, _, x10, q10.1 rfl, fun y H11 ⟨H12, x12, H13, n13, x13, p13⟩ => ⟨acc, (x13.trans x12) _ _ upd_same, Nat.lt_trans hz (by decide), acc ++ [y], H13, n13, ?_, p13⟩⟩
    have z := (x13.trans x12).set D (.lst (acc ++ [y]))
    rw [upd_upd] at z
    exact z
  | false =>
    rw [if_neg (by decide)]
    obtain ⟨H13, n13, x13, p13⟩ := q10.2 rfl
    exact ⟨acc, H13, n13, x13.trans x10, p13⟩
theorem gBW_ok {scope : Scope} (cn : Cn X (upW W) j) (hg : InB X scope fun Y => SG Y j g tg) (s : Shared) (H : Hp) (C : Addr) (cl : List (Str × Addr)) (fp : List Addr) : PG (X.blk s H scope (compEnvC scope cl C X.env) fp) tg (gBW X scope g tg) :=
  ⟨fun pins s' σ H' v u R I r ⟨H1, R1, x, q, k⟩ => pg_W.run pins s' σ H' v u R I r ((hg s H C cl fp).run (cn.blkU (W1 := noW) s H scope C cl fp) q |>.t x k)⟩
theorem eBW_ok {scope : Scope} {te : RX} (cn : Cn X (upW W) j) (he : InB X scope fun Y => SX Y j te e) (s : Shared) (H : Hp) (C : Addr) (cl : List (Str × Addr)) (fp : List Addr) : PE (X.blk s H scope (compEnvC scope cl C X.env) fp) e (eBW X scope te e) :=
  ⟨fun pins s' σ H' Q I ⟨H1, Q1, x, q, k⟩ => pe_W.run pins s' σ H' Q I ((he s H C cl fp).run (cn.blkU (W1 := noW) s H scope C cl fp) q |>.t x k)⟩
theorem tBW_ok0 {scope : Scope} {e2 : Expr} (s : Shared) (H : Hp) (C : Addr) (cl : List (Str × Addr)) (fp : List Addr) : PTs (X.blk s H scope (compEnvC scope cl C X.env) fp) [] (tBW X scope tY e2) :=
  ⟨fun pins s' σ H' Q I ⟨H1, Q1, x, q, k⟩ => wpAny_tests_nil ⟨H', I, k _ _ ⟨H1, x, q⟩⟩⟩
theorem s_lc0 {scope : Scope} {own : List (Str × Nat)} {it : RI} {elt : Expr} {te : RX} (hi : SIt X j it tg iter) (hN : X.N.Nodup) (ok : blkC X.N X.env.scope scope own = true) (hg : InB X scope fun Y => SG Y j g tg) (he : InB X scope fun Y => SX Y j te elt) (hc : X.calm = true := by rfl) (hs : ∀ x, foldedSetIterable iter X.env x = pure x := by intro _; rfl) :
    SX X j (rLc it g tY te (own.map (·.2))) (.ListComp elt [⟨tg, iter, [], 0⟩] scope pos) := ⟨fun cn σ H Q q => by
  obtain ⟨wi, pi, k⟩ := lc_ok (scope := scope) (elt := elt) (ifs := []) cn hi hg tBW_ok0 he q
  exact .of (pe_lc hc hN pi (blkOk_by ok) (gBW_ok cn hg) tBW_ok0 (eBW_ok cn he) hs) k⟩
/-- name = [..] -/
theorem z_lc0 {y : Str} {py spos : Pos} {scope : Scope} {own : List (Str × Nat)} {it : RI} {elt : Expr} {te : RX} (hi : SIt X j it tg iter) (hN : X.N.Nodup) (hy : X.N[i]? = some y) (ok : blkC X.N X.env.scope scope own = true) (hg : InB X scope fun Y => SG Y j g tg) (he : InB X scope fun Y => SX Y j te elt) (hyl : X.env.scope.names.lookup y = some .local := by rfl)
    (hsw : swapsWith (.ListComp elt [⟨tg, iter, [], 0⟩] scope pos) (some (.Name y py)) spos.line X.env = pure true := by rfl) (hc : X.calm = true := by rfl) (hs : ∀ x, foldedSetIterable iter X.env x = pure x := by intro _; rfl) :
    SS X j (zSet i (rLc it g tY te (own.map (·.2)))) (.Assign [.Name y py] (.ListComp elt [⟨tg, iter, [], 0⟩] scope pos) spos) := ⟨fun cn _ D σ H q => by
  obtain ⟨wi, pi, k⟩ := lc_ok (scope := scope) (elt := elt) (ifs := []) cn hi hg tBW_ok0 he q
  exact .of (ps_setLc hc hN hy hyl hsw pi (blkOk_by ok) (gBW_ok cn hg) tBW_ok0 (eBW_ok cn he) hs) fun H1 x => by simp only [put_set] at k; exact k H1 x⟩
/-! ## a def -/
def rFn (n : Nat) (N : List Str) (body : RS) : Sp := fun vs H Q E => vs.length = n ∧ body { nx := fun _ H' => fg (Q .non) H', rt := fun v H' => fg (Q v) H' } (fun c d _ H' => E c d H') (start N vs) H
theorem rfn_ends {Q : VK} : EndsLe { nx := fun _ H' => fg (Q .non) H', rt := fun v H' => fg (Q v) H' } (upD { nx := fun _ H' => Q .non H', rt := Q }) :=
  ⟨fun _ _ ⟨_, x, H', x', q⟩ => ⟨H', x'.trans x, q⟩, fun _ _ ⟨_, x, H', x', q⟩ => ⟨H', x'.trans x, q⟩, fun _ _ ⟨_, _, q⟩ => q.elim, fun _ _ ⟨_, _, q⟩ => q.elim⟩
end
section
variable {P : Program} {w : World} {K : PySem.W.Frag} {mg : Str → Option Value} {base : Heap} {n : Str} {st : Stmt} {ps N : List Str} {k : Nat} {zs : RS}
abbrev Body (P : Program) (w : World) (K : PySem.W.Frag) (mg : Str → Option Value) (base : Heap) (N : List Str) (n : Str) (st : Stmt) (f : Addr) (k : Nat) (zs : RS) : Prop :=
  ∀ (cd : Value) (A : Around) (outer : List Env) (s : Shared) (H1 : Hp) (E1 : XK), SSs (fx P w K mg base N n st f cd A outer s H1 E1) k zs (defBody st)
theorem Def.rfng (d : Def K mg n st ps) (S : FnScope N ps (defScope st)) (hb : Body P w K mg base N n st d.f k zs) : FnG P w K mg base (k + 1) d.f d.fd ps (rFn ps.length N zs) :=
  fng_of d.F S (fun vs H Q E h => h.1) fun cd A outer s H1 E1 W vs H Q E c o hW h => by
    have c2 : Cn (fx P w K mg base N n st d.f cd A outer s H1 E1) (upW fun c d _ H' => E c d H') k := ⟨c.room, c.un, c.gd, c.tk.imp fun c0 d0 σ0 H0 ⟨H2, x2, q⟩ => c.wu _ _ _ _ _ (hW _ _ _ _ q) x2, fun c d σ H H' ⟨H2, x2, q⟩ x => ⟨H2, x2.trans x, q⟩⟩
    exact ((hb cd A outer s H1 E1).run c2 o h.2).le rfn_ends
theorem Def.rcal (d : Def K mg n st ps) (S : FnScope N ps (defScope st)) (hb : Body P w K mg base N n st d.f k zs) : Cal P w K mg base n (k + 1) ps [] (rFn ps.length N zs) :=
  ⟨d.f, d.fd, [], d.rfng S hb, d.g, d.F.kp, d.b, .nil, by
    obtain ⟨oc, od, kV, doc, pm, an, cd, ct, osl, e, lk, _⟩ := d.F.ex
    exact ⟨oc, od, osl, lk⟩⟩
end
/-! ## keyword calls -/
section
variable {X : Cx} {j : Nat} {W : WX} {e a b c : Expr} {es rest : List Expr} {kws : List Keyword} {σ : St} {H H1 : Hp} {Q : VK} {pos p : Pos} {t ta tb : RX} {tr tk : RA} {n : Str}
theorem WK.mono {QA QA1 : List V → Hp → Prop} (w : WK X kws σ H QA) (k : ∀ v H, QA v H → QA1 v H) : WK X kws σ H QA1 := fun H1 x pos pins s I => thn (w H1 x pos pins s I) fun u s' ⟨v, H2, I2, r, H3, x3, q⟩ => ⟨v, H2, I2, r, H3, x3, k _ _ q⟩
/-! ## f-strings -/
def rJs : List RX → Str → St → Hp → (Str → Hp → Prop) → WX → Prop
  | [], acc, _, H, Q, _ => Q acc H
  | t :: ts, acc, σ, H, Q, W => t σ H (fun v H1 => ∃ y, v = .str y ∧ (acc ++ y).length ≤ sizeLine ∧ rJs ts (acc ++ y) σ H1 Q W) W
def rJoin (ts : List RX) : RX := fun σ H Q W => rJs ts Str.empty σ H (fun y H1 => Q (.str y) H1) W
inductive SJ (X : Cx) (j : Nat) : List RX → List Expr → Prop where
  | nil : SJ X j [] []
  | cons {t : RX} {e : Expr} {ts : List RX} {es : List Expr} (h : SX X j t e) (r : SJ X j ts es) : SJ X j (t :: ts) (e :: es)
theorem SJ.pj {ts : List RX} (h : SJ X j ts es) : PJ X es (es.map (tWE X)) := by
  induction h with
  | nil => exact .nil
  | cons h r ih => exact .cons pe_W ih
theorem SJ.run {ts : List RX} (h : SJ X j ts es) (c : Cn X (upW W) j) : ∀ (acc : Str) (Q Q1 : Str → Hp → Prop) (H H1 : Hp), Ex H H1 → rJs ts acc σ H Q W → (∀ y H' H2, Ex H' H2 → Q y H' → Q1 y H2) → tJs (es.map (tWE X)) acc σ H1 Q1 := by
  induction h with
  | nil => intro acc Q Q1 H H1 x q k; exact k _ _ _ x q
  | cons h r ih =>
    intro acc Q Q1 H H1 x q k
    exact (h.run c q).t x fun v H2 ⟨H3, x3, y, e, hz, q⟩ => ⟨y, e, hz, ih _ _ _ _ _ x3 q k⟩
theorem s_join {ts : List RX} (h : SJ X j ts (a :: b :: es)) : SX X j (rJoin ts) (.JoinedStr (a :: b :: es) pos) := ⟨fun c σ H Q q =>
  .of (pe_joined h.pj) fun H1 x => h.run c _ _ _ _ _ x q fun y H' H2 x2 q => ⟨H', x2, q⟩⟩
def rFmtI (t : RX) : RX := fun σ H Q W => t σ H (fun v H1 => match v with
  | .int i => i.natAbs.log2 < 1920 ∧ Q (.str (toString i)) H1
  | .str y => y.length ≤ sizeLine ∧ Q (.str y) H1
  | _ => False) W
theorem s_fmt (h : SX X j t e) : SX X j (rFmtI t) (.FormattedValue e (-1) none pos) := ⟨fun c _ _ _ q => .of (pe_fmt pe_W) fun H2 x2 => (h.run c q).t x2 fun v H3 ⟨H4, x4, q⟩ => by
  cases v <;> first | exact .inr ⟨_, rfl, q.1, H4, x4, q.2⟩ | exact .inl ⟨_, rfl, q.1, H4, x4, q.2⟩ | exact q.elim⟩
end
/-! ## plain numbers, data of ints -/
def cntM (l h m : Int) : Int := if decide (l ≤ h) = true then h / m - (l - 1) / m else 0
def cntS (v l h : Int) : Int := if v = 0 then 0 else cntM l h (2 * lowb v) + (cntM (if v + 1 > l then v + 1 else l) h (lowb v) - cntM (if v + 1 > l then v + 1 else l) h (2 * lowb v))
theorem lowb_pos {v : Int} (h : 0 < v) : 1 ≤ lowb v := by
  obtain ⟨n, rfl⟩ := Int.eq_ofNat_of_zero_le (Int.le_of_lt h)
  rw [lowb_nat (by omega)]
  have := Nat.and_le_right (n := n) (m := n - 1)
  omega
theorem mulW {i j : Int} (h1 : Wide i) (h2 : Wide j) : CMulX i j := by
  have a := h1.bits
  have b := h2.bits
  show (Builtin.Int.intBits i : Int) + (Builtin.Int.intBits j : Int) ≤ 134217728
  omega
theorem dp_ints {K : PySem.W.Frag} {H : Hp} : ∀ xs : List Int, DpAll K H (xs.map V.int) (xs.map PyData.int)
  | [] => .nil
  | x :: xs => .cons (.int x) (dp_ints xs)
theorem fits_ints : ∀ xs : List Int, (∀ x ∈ xs, 0 ≤ x ∧ x < 1000000000000000000000000000000000000000000000000000000000000000) → fitsAll (xs.map PyData.int)
  | [], _ => by simp [fitsAll]
  | x :: xs, h => by
    have h1 := h x (List.mem_cons_self ..)
    simp only [List.map_cons, fitsAll, fits]
    exact ⟨by omega, fits_ints xs fun y hy => h y (List.mem_cons_of_mem _ hy)⟩
theorem bulk_ints : ∀ xs : List Int, PyData.bulkAll (xs.map PyData.int) = xs.length
  | [] => by simp [PyData.bulkAll]
  | x :: xs => by
    simp only [List.map_cons, PyData.bulkAll, PyData.bulk, bulk_ints xs, List.length_cons]
    omega
theorem depth_ints : ∀ xs : List Int, PyData.depthAll (xs.map PyData.int) = 0
  | [] => by simp [PyData.depthAll]
  | x :: xs => by
    simp only [List.map_cons, PyData.depthAll, PyData.depth, depth_ints xs]
    rfl
theorem bits_pow {n : Int} : (1 : Int) * 2 ^ ((Builtin.Int.intBits n : Nat) : Int).toNat = 2 ^ Builtin.Int.intBits n := by rw [bits_nat, Int.one_mul]
/-- the powers that are left -/
def pwR : Nat → Int
  | 0 => 0
  | k + 1 => 2 ^ k
theorem pwR_half (k : Nat) : pwR (k + 1) / 2 ^ (1 : Int).toNat = pwR k := by
  show (2 : Int) ^ k / 2 ^ 1 = pwR k
  cases k with
  | zero => rfl
  | succ k =>
    show (2 : Int) ^ (k + 1) / 2 = 2 ^ k
    rw [Int.pow_succ]
    exact Int.mul_ediv_cancel _ (by decide)
section
variable {n m : Nat} {G : Hp → Prop} {Y : Nat → Hp → VK → Prop} {g : RG} {elt : RX} {vs : List Nat} {σ : St} {H : Hp} {Q : VK} {xs : List V} {lo : Int}
theorem wipe_put {v : V} : wipe (put (wipe σ [m]) m v) [m] = wipe σ [m] := by
  show (put (σ.set m none) m v).set m none = σ.set m none
  rw [put_set, List.set_set, List.set_set]
/-- a comprehension without test, one name; each turn leaves the heap as it was; the items are told by P (turn, item) -/
theorem lc_gen (I : Nat → V → Prop) (hy : ∀ i H k, i < n → (∀ x, I i x → k x H) → Y i H k) (P : Nat → V → Prop) (hn : n < 100000) (hG : G H)
    (turn : ∀ i x d acc (R : VK), i < n → I i x → H d = none → (∀ y H5, Ex (upd H d (.lst acc)) H5 → P i y → R y H5) → elt (put (wipe σ [m]) m x) (upd H d (.lst acc)) R noW)
    (done : ∀ ys q, ys.length = n → (∀ i y, ys[i]? = some y → P i y) → H q = none → Q (.ref q) (upd H q (.lst ys))) : LcB n G Y (gName m) tY elt [m] σ H Q :=
  lcB (fun i acc H' => H' = H ∧ acc.length = i ∧ ∀ k y, acc[k]? = some y → P k y) ⟨rfl, rfl, fun _ _ z => by simp at z⟩ (fun i acc H' hi p => by
    obtain ⟨rfl, p, _⟩ := p
    exact ⟨hG, by omega⟩) (fun i acc H' d hi p nd => by
    obtain ⟨rfl, rfl, p⟩ := p
    refine hy _ _ _ hi fun x hx => ⟨wipe_put, fun _ => turn _ x d acc _ hi hx nd fun y H5 x5 hp => ⟨H', nd, x5, rfl, by simp, fun k y' hk => ?_⟩, fun z => nomatch z⟩
    by_cases hk2 : k < acc.length
    · exact p k y' (by rwa [List.getElem?_append_left hk2] at hk)
    · rw [List.getElem?_append_right (by omega)] at hk
      have : k - acc.length = 0 := by
        cases e : k - acc.length with
        | zero => rfl
        | succ j => rw [e] at hk; simp at hk
      have e : k = acc.length := by omega
      subst e
      simp at hk
      exact hk ▸ hp) fun acc H' q p nq => by
    obtain ⟨rfl, hl, p⟩ := p
    exact done acc q hl p nq
theorem lc_at (P : Nat → V → Prop) (hn : xs.length < 100000) (hG : G H) (turn : ∀ i x d acc (R : VK), xs[i]? = some x → H d = none → (∀ y H5, Ex (upd H d (.lst acc)) H5 → P i y → R y H5) → elt (put (wipe σ [m]) m x) (upd H d (.lst acc)) R noW)
    (done : ∀ ys q, ys.length = xs.length → (∀ i y, ys[i]? = some y → P i y) → H q = none → Q (.ref q) (upd H q (.lst ys))) : LcB xs.length G (yAt xs) (gName m) tY elt [m] σ H Q :=
  lc_gen (fun i x => xs[i]? = some x) (fun _ _ _ _ k => k) P hn hG (fun i x d acc R hi e nd k => turn i x d acc R e nd k) done
theorem all_bl {ys : List V} {b : Bool} (h : ∀ (i : Nat) (y : V), ys[i]? = some y → y = .bl b) : ys = List.replicate ys.length (V.bl b) :=
  List.eq_replicate_iff.mpr ⟨rfl, fun y hy => by
    obtain ⟨i, hi⟩ := List.getElem?_of_mem hy
    exact h i y hi⟩
theorem turns_nat {l m : Int} {i : Nat} (hm : 1 ≤ m) (h : i < (if (if l < m then l else m) > 1 then (if l < m then l else m) else 1).toNat) : (i : Int) < m := by
  split at h <;> (try split at h) <;> omega
theorem turns_ok {l m : Int} (hm : m ≤ 1000000) : -(2 ^ 62) ≤ (if (if l < m then l else m) > 1 then (if l < m then l else m) else 1) ∧ (if (if l < m then l else m) > 1 then (if l < m then l else m) else 1) < 2 ^ 62 := by
  split <;> (try split) <;> omega
/-- an item of a list, whichever -/
theorem ix_any {K : PySem.W.Frag} {l : Addr} {d : Int} (hl : H l = some (.lst xs)) (g : 0 ≤ d) (lt : d < xs.length) (q : ∀ v ∈ xs, Q v H) : oIxL K (.ref l) (.int d) H Q := by
  obtain ⟨k, rfl⟩ := Int.eq_ofNat_of_zero_le g
  have lt : k < xs.length := by omega
  exact ⟨l, xs, _, xs[k], rfl, rfl, .of hl, atI_nat (by simp [lt]), q _ (List.getElem_mem lt)⟩
theorem all_mem {α : Type} {P : α → Prop} : ∀ {xs : List α}, xs.foldr (fun x p => P x ∧ p) True → ∀ v ∈ xs, P v
  | [], _, _, h => nomatch h
  | x :: xs, h, v, hv => by
    rcases List.mem_cons.mp hv with rfl | hv
    · exact h.1
    · exact all_mem h.2 v hv
end
theorem FnG.imp {P : Program} {w : World} {K : PySem.W.Frag} {mg : Str → Option Value} {base : Heap} {k : Nat} {f : Addr} {fd : FuncData} {ps : List Str} {sp sp' : Sp} (F : FnG P w K mg base k f fd ps sp) (h : ∀ vs H Q E, sp' vs H Q E → sp vs H Q E) : FnG P w K mg base k f fd ps sp' :=
  ⟨fun vs H Q E q => F.len vs H Q E (h _ _ _ _ q), fun A outer s H1 args us vs H Q E hr hg e0 hb r x q => F.run A outer s H1 args us vs H Q E hr hg e0 hb r x (h _ _ _ _ q)⟩
/-! ## the order of tuples of ints and bools -/
def num : V → Int
  | .int i => i
  | .bl b => b2i b
  | _ => 0
def sameK : V → V → Bool
  | .int _, .int _ => true
  | .bl _, .bl _ => true
  | _, _ => false
def lexR (r : Int → Int → Bool) : List V → List V → Bool
  | x :: xs, y :: ys => if num x = num y then lexR r xs ys else r (num x) (num y)
  | _, _ => false
theorem lexAt_eq (r : Int → Int → Bool) : ∀ (xs ys p1 p2 : List V), p1.length = p2.length → xs.length = ys.length →
    Ob.lexAt (fun j => decide (num ((p1 ++ xs).getD j .non) = num ((p2 ++ ys).getD j .non))) (fun j => r (num ((p1 ++ xs).getD j .non)) (num ((p2 ++ ys).getD j .non))) false p1.length xs.length = lexR r xs ys
  | [], [], _, _, _, _ => rfl
  | x :: xs, y :: ys, p1, p2, hp, hl => by
    have ih := lexAt_eq r xs ys (p1 ++ [x]) (p2 ++ [y]) (by simp [hp]) (by simpa using hl)
    rw [List.length_cons, Ob.lexAt_succ]
    have g1 : (p1 ++ x :: xs).getD p1.length .non = x := by simp [List.getD_eq_getElem?_getD]
    have g2 : (p2 ++ y :: ys).getD p1.length .non = y := by rw [hp]; simp [List.getD_eq_getElem?_getD]
    rw [g1, g2]
    simp only [List.append_assoc, List.cons_append, List.nil_append, List.length_append, List.length_cons, List.length_nil] at ih
    unfold lexR
    by_cases h : num x = num y
    · rw [if_pos (decide_eq_true h), if_pos h]
      exact ih
    · rw [if_neg (by simpa using h), if_neg h]
theorem sameK_at : ∀ {xs ys : List V} {its its2 : List Value}, Vals xs its → Vals ys its2 → (xs.zip ys).all (fun p => sameK p.1 p.2) = true → ∀ (j : Nat) (h1 : j < its.length) (h2 : j < its2.length),
    (∃ i k t u, its[j] = .int i t ∧ its2[j] = .int k u ∧ num (xs.getD j .non) = i ∧ num (ys.getD j .non) = k) ∨ ∃ a b, its[j] = .bool a ∧ its2[j] = .bool b ∧ num (xs.getD j .non) = b2i a ∧ num (ys.getD j .non) = b2i b
  | x :: _, y :: _, u :: _, v :: _, .cons r1 t1, .cons r2 t2, h, 0, _, _ => by
    simp only [List.zip_cons_cons, List.all_cons, Bool.and_eq_true] at h
    have h := h.1
    match x, y, r1, r2, h with
    | .bl a, .bl b, r1, r2, _ => exact .inr ⟨a, b, r1, r2, rfl, rfl⟩
    | .int i, .int k, ⟨t, e1⟩, ⟨w, e2⟩, _ => exact .inl ⟨i, k, t, w, e1, e2, rfl, rfl⟩
  | _, _, _, _, .cons r1 t1, .cons r2 t2, h, j + 1, h1, h2 => by
    simp only [List.zip_cons_cons, List.all_cons, Bool.and_eq_true] at h
    have := sameK_at t1 t2 h.2 j (by simpa using h1) (by simpa using h2)
    simpa using this
theorem b2i_eq {a b : Bool} : (a == b) = decide (b2i a = b2i b) := by cases a <;> cases b <;> rfl
section
variable {X : Cx} {j : Nat} {W : WX}
theorem tuples_op {op : CmpOp} {r : Int → Int → Bool} {pins : List (Addr × Obj)} {s : Shared} {σ : St} {H : Hp} {a b : Addr} {xs ys : List V} {Q : VK} (I : Inv X pins σ H s) (ha : SqT X.K H a xs) (hb : SqT X.K H b ys) (hl : xs.length = ys.length) (hk : (xs.zip ys).all (fun p => sameK p.1 p.2) = true)
    (rI : ∀ i k t u, Ob.RcOp op X.A.in1 s (.int i t) (.int k u) (r i k)) (rB : ∀ x y, Ob.RcOp op X.A.in1 s (.bool x) (.bool y) (r (b2i x) (b2i y)))
    (T : ∀ (its its2 : List Value) (e q : Nat → Bool), s.heap.IsTuple a its.toArray → s.heap.IsTuple b its2.toArray → its.length = its2.length → (∀ j (h1 : j < its.toArray.size) (h2 : j < its2.toArray.size), SeqAt.EqAt X.A.in1 s its.toArray[j] its2.toArray[j] (e j)) →
      (∀ j (h1 : j < its.toArray.size) (h2 : j < its2.toArray.size), e j = false → Ob.RcOp op X.A.in1 s its.toArray[j] its2.toArray[j] (q j)) → Ob.RcOp op X.A s (.ref a) (.ref b) (Ob.lexAt e q false 0 its.length))
    (q : Q (.bl (lexR r xs ys)) H) (hc : compareOp op (.ref a) (.ref b) = richCompare op (.ref a) (.ref b) := by rfl) : wpAny (model X.prog X.w) X.A (compareOp op (.ref a) (.ref b)) (EP X pins σ Q) X.xe s := by
  obtain ⟨its, r1, p1, _⟩ := I.tuple ha
  obtain ⟨its2, r2, p2, _⟩ := I.tuple hb
  have k := sameK_at r1 r2 hk
  have R := T its its2 (fun j => decide (num (xs.getD j .non) = num (ys.getD j .non))) (fun j => r (num (xs.getD j .non)) (num (ys.getD j .non))) p1 p2 (by rw [← r1.length, ← r2.length]; exact hl) (fun j h1 h2 => by
    simp only [List.getElem_toArray]
    rcases k j (by simpa using h1) (by simpa using h2) with ⟨i, k, t, u, e1, e2, e3, e4⟩ | ⟨x, y, e1, e2, e3, e4⟩
    · rw [e1, e2, e3, e4]
      have z : (i == k) = decide (i = k) := rfl
      rw [← z]
      exact SeqAt.EqAt.int_int _ _ _ _
    · rw [e1, e2, e3, e4, ← b2i_eq]
      exact SeqAt.EqAt.bool_bool _ _) (fun j h1 h2 _ => by
    simp only [List.getElem_toArray]
    rcases k j (by simpa using h1) (by simpa using h2) with ⟨i, k, t, u, e1, e2, e3, e4⟩ | ⟨x, y, e1, e2, e3, e4⟩
    · rw [e1, e2, e3, e4]
      exact rI _ _ _ _
    · rw [e1, e2, e3, e4]
      exact rB _ _)
  have e := lexAt_eq r xs ys [] [] rfl hl
  simp only [List.nil_append, List.length_nil] at e
  rw [← r1.length, e] at R
  rw [hc]
  exact R X.prog X.w X.xe (EP X pins σ Q) ⟨.bl _, H, I, rfl, q⟩
def oLexT (K : PySem.W.Frag) (r : Int → Int → Bool) : RO := fun x y H Q => ∃ a b xs ys, x = .ref a ∧ y = .ref b ∧ SqT K H a xs ∧ SqT K H b ys ∧ xs.length = ys.length ∧ (xs.zip ys).all (fun p => sameK p.1 p.2) = true ∧ Q (.bl (lexR r xs ys)) H
abbrev oGtT (K : PySem.W.Frag) : RO := oLexT K fun i j => decide (j < i)
theorem so_lex {op : CmpOp} {r : Int → Int → Bool} (h : ∀ pins s σ H a b xs ys (Q : VK), Inv X pins σ H s → SqT X.K H a xs → SqT X.K H b ys → xs.length = ys.length → (xs.zip ys).all (fun p => sameK p.1 p.2) = true → Q (.bl (lexR r xs ys)) H → wpAny (model X.prog X.w) X.A (compareOp op (.ref a) (.ref b)) (EP X pins σ Q) X.xe s) : SO X (compareOp op) (oLexT X.K r) :=
  fun x y H Q ⟨a, b, xs, ys, e1, e2, ha, hb, hl, hk, q⟩ => by
    subst e1; subst e2
    intro H1 e pins s σ v u I rx ry
    cases rx
    cases ry
    exact h pins s σ H1 a b xs ys _ I (e.sqT ha) (e.sqT hb) hl hk ⟨H, e, q⟩
theorem o_gtT (hu : X.A.units < cLine) : SO X (compareOp .Gt) (oGtT X.K) := so_lex fun pins s σ H a b xs ys Q I ha hb hl hk q =>
  tuples_op I ha hb hl hk (fun i k t u => Ob.RcOp.gt_int _ _ _ _) (fun x y => fun _ _ _ _ h => PyProof.Rows.gt_bool h) (fun its its2 e q p1 p2 hz he hr => by
    have R := Ob.RcOp.tuples_gt p1 p2 hu he hr
    have e0 : decide (its.toArray.size > its2.toArray.size) = false := by simp [hz]
    have e1 : min its.toArray.size its2.toArray.size = its.length := by simp [hz]
    rw [e0, e1] at R
    exact R) q
/-- with the room of the def around -/
def SOr (X : Cx) (f : Value → Value → Sem Value) (r : RO) : Prop := X.A.units < cLine → SO X f r
theorem s_cmpr {op : CmpOp} {r : RO} {a b : Expr} {pos : Pos} {ta tb : RX} (ho : SOr X (compareOp op) r) (ha : SX X j ta a) (hb : SX X j tb b) (hm : behindInMarks op b = false := by first | exact nomark _ | with_unfolding_all rfl) : SX X j (rBin r ta tb) (.Compare a [op] [b] pos) :=
  ⟨fun c _ _ _ h => (s_cmp (ho (by have := c.hu; omega)) ha hb hm).run c h⟩
/-! ## sorted of ints -/
end
/-! ## steps, counts -/
theorem lowb_ex : ∀ {n : Nat}, 0 < n → ∃ j : Nat, lowb (n : Int) = 2 ^ j ∧ (n : Int) % 2 ^ j = 0 ∧ (n : Int) % (2 * 2 ^ j) ≠ 0 := fun {n} => by
  induction n using Nat.strongRecOn with
  | _ n ih =>
    intro h
    have key : ∃ j : Nat, (n : Int) % 2 ^ j = 0 ∧ (n : Int) % (2 * 2 ^ j) ≠ 0 := by
      by_cases hp : n % 2 = 1
      · exact ⟨0, by omega, by omega⟩
      · obtain ⟨m, rfl⟩ : ∃ m, n = 2 * m := ⟨n / 2, by omega⟩
        obtain ⟨j, -, h1, h2⟩ := ih m (by omega) (by omega)
        refine ⟨j + 1, ?_, fun z => h2 ?_⟩
        · rw [Int.pow_succ, Int.mul_comm, Int.natCast_mul]
          show (2 : Int) * m % (2 * 2 ^ j) = 0
          rw [Int.mul_emod_mul_of_pos _ _ (by decide), h1]
          rfl
        · rw [Int.pow_succ, Int.mul_comm (2 ^ j), Int.natCast_mul] at z
          have z : (2 : Int) * m % (2 * (2 * 2 ^ j)) = 0 := z
          rw [Int.mul_emod_mul_of_pos _ _ (by decide)] at z
          omega
    obtain ⟨j, h1, h2⟩ := key
    exact ⟨j, lowb_is (by omega) h1 h2, h1, h2⟩
theorem lowb_two {n : Int} (h : 0 < n) : ∃ j : Nat, lowb n = 2 ^ j ∧ n % 2 ^ j = 0 ∧ n % (2 * 2 ^ j) ≠ 0 := by
  obtain ⟨m, rfl⟩ := Int.eq_ofNat_of_zero_le (Int.le_of_lt h)
  exact lowb_ex (by omega)
theorem pow_dvd {i j : Nat} {x : Int} (h : i ≤ j) (hx : x % 2 ^ j = 0) : x % 2 ^ i = 0 := by
  obtain ⟨k, rfl⟩ := Nat.le.dest h
  have d : (2 : Int) ^ i ∣ 2 ^ (i + k) := ⟨2 ^ k, Int.pow_add 2 i k⟩
  exact Int.emod_eq_zero_of_dvd (Int.dvd_trans d (Int.dvd_of_emod_eq_zero hx))
theorem pow_lt {i j : Nat} : (2 : Int) ^ i < 2 ^ j ↔ i < j := by
  constructor
  · intro h
    rcases Nat.lt_or_ge i j with z | z
    · exact z
    · have := pow_mono z
      omega
  · intro h
    have h1 := pow_mono (show i + 1 ≤ j from h)
    have h2 : (2 : Int) ^ (i + 1) = 2 * 2 ^ i := by rw [Int.pow_succ, Int.mul_comm]
    have h3 : (0 : Int) < 2 ^ i := Int.pow_pos (by decide)
    omega
/-- a greater step: twice the step divides it -/
theorem lowb_gt {x v : Int} (hx : 0 < x) (hv : 0 < v) : lowb v < lowb x ↔ x % (2 * lowb v) = 0 := by
  obtain ⟨i, e1, a1, b1⟩ := lowb_two hx
  obtain ⟨j, e2, a2, b2⟩ := lowb_two hv
  rw [e1, e2, pow_lt]
  have e3 : (2 : Int) * 2 ^ j = 2 ^ (j + 1) := by rw [Int.pow_succ, Int.mul_comm]
  have e4 : (2 : Int) * 2 ^ i = 2 ^ (i + 1) := by rw [Int.pow_succ, Int.mul_comm]
  rw [e3]
  rw [e4] at b1
  constructor
  · intro h
    exact pow_dvd h a1
  · intro h
    rcases Nat.lt_or_ge j i with z | z
    · exact z
    · exact absurd (pow_dvd (Nat.succ_le_succ z) h) b1
theorem lowb_ge {x v : Int} (hx : 0 < x) (hv : 0 < v) : lowb v ≤ lowb x ↔ x % lowb v = 0 := by
  obtain ⟨i, e1, a1, b1⟩ := lowb_two hx
  obtain ⟨j, e2, a2, b2⟩ := lowb_two hv
  rw [e1, e2]
  constructor
  · intro h
    have : j ≤ i := by
      rcases Nat.lt_or_ge i j with z | z
      · have := pow_lt.mpr z
        omega
      · exact z
    exact pow_dvd this a1
  · intro h
    rcases Nat.lt_or_ge i j with z | z
    · have e4 : (2 : Int) * 2 ^ i = 2 ^ (i + 1) := by rw [Int.pow_succ, Int.mul_comm]
      rw [e4] at b1
      exact absurd (pow_dvd z h) b1
    · exact pow_mono z
/-- how many there are: h / m - (l - 1) / m, one by one -/
def ctM (a h m : Int) : Int := h / m - (a - 1) / m
theorem div_step {h m : Int} (hm : 0 < m) : (h + 1) / m = h / m + if (h + 1) % m = 0 then 1 else 0 := by
  have e1 := Int.mul_ediv_add_emod h m
  have e2 := Int.mul_ediv_add_emod (h + 1) m
  have r1 := Int.emod_nonneg h (show m ≠ 0 by omega)
  have r2 := Int.emod_lt_of_pos h hm
  have s1 := Int.emod_nonneg (h + 1) (show m ≠ 0 by omega)
  have s2 := Int.emod_lt_of_pos (h + 1) hm
  generalize h / m = a at *
  generalize (h + 1) / m = b at *
  generalize h % m = p at *
  generalize (h + 1) % m = q at *
  have e : m * (b - a) = p + 1 - q := by rw [Int.mul_sub]; omega
  have b1 : b - a ≤ 1 := by
    rcases Int.lt_or_le 1 (b - a) with z | z
    · have := Int.mul_le_mul_of_nonneg_left (show 2 ≤ b - a by omega) (Int.le_of_lt hm)
      omega
    · exact z
  have b0 : 0 ≤ b - a := by
    rcases Int.lt_or_le (b - a) 0 with z | z
    · have := Int.mul_le_mul_of_nonneg_left (show b - a ≤ -1 by omega) (Int.le_of_lt hm)
      omega
    · exact z
  have hc : b - a = 0 ∨ b - a = 1 := by omega
  rcases hc with z | z
  · rw [z, Int.mul_zero] at e
    rw [if_neg (by omega)]
    omega
  · rw [z, Int.mul_one] at e
    rw [if_pos (by omega)]
    omega
theorem cntM_ct {a h m : Int} (hh : a ≤ h + 1) : cntM a h m = ctM a h m := by
  unfold cntM ctM
  by_cases z : a ≤ h
  · rw [if_pos (decide_eq_true z)]
  · rw [if_neg (by simpa using z), show a - 1 = h by omega]
    omega
theorem cntM_empty {a h m : Int} (hh : h < a) : cntM a h m = 0 := by
  unfold cntM
  rw [if_neg (by simpa using hh)]
theorem cntM_succ {a h m : Int} (h1 : a ≤ h + 1) (hm : 0 < m) : cntM a (h + 1) m = cntM a h m + if (h + 1) % m = 0 then 1 else 0 := by
  rw [cntM_ct h1, cntM_ct (by omega)]
  unfold ctM
  rw [div_step hm]
  omega
theorem cntS_empty {v a h : Int} (hh : h < a) : cntS v a h = 0 := by
  unfold cntS
  split
  · rfl
  · rw [cntM_empty hh, cntM_empty (by split <;> omega), cntM_empty (by split <;> omega)]
    rfl
/-- one more version: does it precede v -/
theorem cntS_succ {v a h : Int} (v0 : 0 ≤ v) (a0 : 0 ≤ a) (h1 : a ≤ h + 1) : cntS v a (h + 1) = cntS v a h + if precB (h + 1) v = true then 1 else 0 := by
  unfold cntS
  by_cases hv : v = 0
  · subst hv
    rw [if_pos rfl, if_pos rfl, if_neg]
    · rfl
    · unfold precB
      simp
  · rw [if_neg hv, if_neg hv]
    have lp := lowb_pos (v := v) (by omega)
    rw [cntM_succ h1 (by omega)]
    have up : ∀ m : Int, 0 < m → cntM (if v + 1 > a then v + 1 else a) (h + 1) m = cntM (if v + 1 > a then v + 1 else a) h m + if v < h + 1 ∧ (h + 1) % m = 0 then 1 else 0 := fun m hm => by
      by_cases z : v < h + 1
      · rw [cntM_succ (by split <;> omega) hm]
        simp [z]
      · rw [cntM_empty (by split <;> omega), cntM_empty (by split <;> omega)]
        simp [z]
    rw [up _ lp, up _ (by omega)]
    by_cases z : h + 1 = 0
    · rw [z]
      have : precB 0 v = true := by unfold precB; simp; omega
      rw [this]
      simp [show ¬ v < 0 by omega]
      omega
    · have hx : 0 < h + 1 := by omega
      have g := lowb_gt hx (show 0 < v by omega)
      have ge := lowb_ge hx (show 0 < v by omega)
      have e : precB (h + 1) v = if lowb (h + 1) = lowb v then decide (h + 1 > v) else decide (lowb (h + 1) > lowb v) := by
        unfold precB
        rw [if_neg]
        simp [z, hv]
      rw [e]
      by_cases q1 : (h + 1) % (2 * lowb v) = 0
      · have l := g.mpr q1
        have q2 := ge.mp (Int.le_of_lt l)
        rw [if_neg (show ¬ lowb (h + 1) = lowb v by omega)]
        simp [q1, q2, l]
        omega
      · have l := fun z => q1 (g.mp z)
        by_cases q2 : (h + 1) % lowb v = 0
        · have l2 := ge.mpr q2
          have l3 : lowb (h + 1) = lowb v := by omega
          rw [if_pos l3]
          by_cases q3 : v < h + 1 <;> simp [q1, q2, q3]
          omega
        · have l2 := fun z => q2 (ge.mp z)
          rw [if_neg (show ¬ lowb (h + 1) = lowb v by omega)]
          simp [q1, q2, show ¬ lowb (h + 1) > lowb v by omega]
/-- counts over l, l + 1, .. -/
theorem cnt_range (f : Int → Int) (p : Int → Bool) (l : Int) (h0 : f (l - 1) = 0) (hs : ∀ h, l ≤ h + 1 → f (h + 1) = f h + if p (h + 1) = true then 1 else 0) : ∀ n : Nat, f (l + n - 1) = (((List.range n).map fun (i : Nat) => l + (i : Int)).filter p).length
  | 0 => by simpa using h0
  | n + 1 => by
    have ih := cnt_range f p l h0 hs n
    have st := hs (l + n - 1) (by omega)
    rw [show l + (n : Int) - 1 + 1 = l + n by omega] at st
    rw [List.range_succ, List.map_append, List.filter_append, List.length_append, show l + ((n + 1 : Nat) : Int) - 1 = l + n by omega, st, ih]
    cases e : p (l + n) <;> simp [e]
/-! ## classes: instances, fields, methods -/
/-- a method that stands in a class -/
structure DefM (K : PySem.W.Frag) (C : Addr) (m qual : Str) (st : Stmt) (ps : List Str) : Type where
  f : Addr
  fd : FuncData
  F : Fun K m qual st f fd
  mt : Meth K C m f
  b : Binds K fd ps []
/-- one with keyword-only parameters that have defaults -/
structure DefMK (K : PySem.W.Frag) (C : Addr) (m qual : Str) (st : Stmt) (kws : List (Str × V)) : Type where
  f : Addr
  fd : FuncData
  F : FunD K m qual (defArgs st) (defBody st) (defScope st) [] kws f fd
  mt : Meth K C m f
structure CalM (P : Program) (w : World) (K : PySem.W.Frag) (mg : Str → Option Value) (base : Heap) (C : Addr) (m : Str) (k : Nat) (ps : List Str) (dvs : List V) (sp : Sp) : Prop where
  ex : ∃ (f : Addr) (fd : FuncData) (ds : List Value), FnG P w K mg base k f fd ps sp ∧ Meth K C m f ∧ Binds K fd ps ds ∧ Vals dvs ds
/-- called with n positional values (self too) and the keywords ks -/
structure CalMK (P : Program) (w : World) (K : PySem.W.Frag) (mg : Str → Option Value) (base : Heap) (C : Addr) (m : Str) (k n : Nat) (ks : List Str) (gV : List V → List V → List V) (sp : Sp) : Prop where
  ex : ∃ (f : Addr) (fd : FuncData) (ps : List Str) (g : List Value → List Value → List Value), FnG P w K mg base k f fd ps sp ∧ Meth K C m f ∧ KBn K fd ps n ks g gV
/-- a class that is made -/
structure MkC (K : PySem.W.Frag) (mg : Str → Option Value) (x : Str) (C : Addr) : Prop where
  g : mg x = some (.ref C)
  makes : PySem.W.makesIn K C = true
  kp : PySem.W.keepIn K (.ref C) = true
section
variable {P : Program} {w : World} {K : PySem.W.Frag} {mg : Str → Option Value} {base : Heap} {n m qual : Str} {st : Stmt} {ps N : List Str} {k : Nat} {zs : RS} {C : Addr} {kws : List (Str × V)}
theorem DefM.rfng (d : DefM K C m qual st ps) (S : FnScope N ps (defScope st)) (hb : Body P w K mg base N qual st d.f k zs) : FnG P w K mg base (k + 1) d.f d.fd ps (rFn ps.length N zs) :=
  fng_of d.F S (fun vs H Q E h => h.1) fun cd A outer s H1 E1 W vs H Q E c o hW h => by
    have c2 : Cn (fx P w K mg base N qual st d.f cd A outer s H1 E1) (upW fun c d _ H' => E c d H') k := ⟨c.room, c.un, c.gd, c.tk.imp fun c0 d0 σ0 H0 ⟨H2, x2, q⟩ => c.wu _ _ _ _ _ (hW _ _ _ _ q) x2, fun c d σ H H' ⟨H2, x2, q⟩ x => ⟨H2, x2.trans x, q⟩⟩
    exact ((hb cd A outer s H1 E1).run c2 o h.2).le rfn_ends
theorem DefM.rcal (d : DefM K C m qual st ps) (S : FnScope N ps (defScope st)) (hb : Body P w K mg base N qual st d.f k zs) : CalM P w K mg base C m (k + 1) ps [] (rFn ps.length N zs) :=
  ⟨d.f, d.fd, [], d.rfng S hb, d.mt, d.b, .nil⟩
theorem DefMK.rfng (d : DefMK K C m qual st kws) (S : FnScope N ps (defScope st)) (hb : Body P w K mg base N qual st d.f k zs) : FnG P w K mg base (k + 1) d.f d.fd ps (rFn ps.length N zs) := by
  obtain ⟨oc, od, dV, kV, doc, pm, an, cdv, ct, osl, e, lk, hcd, hD, hK⟩ := d.F.ex
  rcases hD with ⟨_, rfl⟩ | ⟨z, _⟩
  · exact fng_of ⟨⟨oc, od, kV, doc, pm, an, cdv, ct, osl, e, lk, hcd⟩, d.F.kp⟩ S (fun vs H Q E h => h.1) fun cd A outer s H1 E1 W vs H Q E c o hW h => by
      have c2 : Cn (fx P w K mg base N qual st d.f cd A outer s H1 E1) (upW fun c d _ H' => E c d H') k := ⟨c.room, c.un, c.gd, c.tk.imp fun c0 d0 σ0 H0 ⟨H2, x2, q⟩ => c.wu _ _ _ _ _ (hW _ _ _ _ q) x2, fun c d σ H H' ⟨H2, x2, q⟩ x => ⟨H2, x2.trans x, q⟩⟩
      exact ((hb cd A outer s H1 E1).run c2 o h.2).le rfn_ends
  · exact absurd rfl z
theorem CalM.kw {sp : Sp} (Cc : CalM P w K mg base C m k ps [] sp) (d : DefM K C m qual st ps) (n : Nat) (ks : List Str) (g : {α : Type} → List α → List α → List α) (hrel : ∀ {vs zs : List V} {us ws : List Value}, Vals vs us → Vals zs ws → Vals (g vs zs) (g us ws))
    (hb : ∀ (kV doc pm : Value) (an : Option Addr) (cdv ct : Value) (us ws : List Value), us.length = n → ws.length = ks.length → bindArgs (PySem.W.fnOf m qual (defArgs st) (defBody st) (defScope st) .none kV doc pm an cdv ct) ⟨us, ks.zip ws⟩ = pure (ps.zip (g us ws)))
    (F : FnG P w K mg base k d.f d.fd ps sp) : CalMK P w K mg base C m k n ks g sp := by
  obtain ⟨oc2, od2, kV, doc, pm, an, cd, ct, osl2, e, lk2, _⟩ := d.F.ex
  refine ⟨d.f, d.fd, ps, g, F, d.mt, ⟨fun s us ws X l1 l2 => ?_, fun r1 r2 => hrel r1 r2⟩⟩
  rw [e]
  exact .of_eq (hb kV doc pm an cd ct us ws l1 l2)
end
section
variable {X : Cx} {j : Nat} {W : WX} {e a b c o : Expr} {es rest : List Expr} {kws : List Keyword} {σ : St} {H H1 : Hp} {Q : VK} {pos p apos : Pos} {t ta tb to : RX} {tr tk : RA} {n f m : Str} {C : Addr} {sp : Sp} {k : Nat} {ps : List Str} {dvs : List V}
end
/-! ## ranges of great ints, given to list -/
section
namespace LR
open Sem (wp)
open AutoSeq1 (wpAny_loadPart')
open PySem.F
theorem slot_next : Slot "longrange_iterator" "__next__" "longrange_iterator.__next__" :=
  .of (owner := "longrange_iterator") (n := "__next__") (by rw [typeLookup_type, builtinLookup_eq_fast]; kernel_rfl) (by decide +kernel) (by decide +kernel) (by decide +kernel)
    (by first | exact .inl (by decide +kernel) | exact .inr (by decide +kernel)) (by rw [isSubtype_type]; kernel_rfl)
theorem entry_next : entryFor table "longrange_iterator.__next__" = some Builtin.«longrange_iterator.__next__» := entryFor_of_tree (by kernel_rfl)
theorem args_next (a : Value) : argsOk "longrange_iterator.__next__" ⟨[a], []⟩ := by
  unfold argsOk; kernel_rfl
theorem slot_iter : Slot "longrange_iterator" "__iter__" "longrange_iterator.__iter__" :=
  .of (owner := "longrange_iterator") (n := "__iter__") (by rw [typeLookup_type, builtinLookup_eq_fast]; kernel_rfl) (by decide +kernel) (by decide +kernel) (by decide +kernel)
    (by first | exact .inl (by decide +kernel) | exact .inr (by decide +kernel)) (by rw [isSubtype_type]; kernel_rfl)
abbrev IsLong (h : Heap) (it : Addr) (x left step : Int) : Prop := h.get? it = some { cls := .type "longrange_iterator", dict := none, data := .fields #[rawInt x, rawInt left, rawInt step], slots := #[] }
theorem meets_next (it : Addr) (x left step : Int) (hc0 : ¬left ≤ 0) :
    Meets (Builtin.«longrange_iterator.__next__» ⟨[.ref it], []⟩) (fun _ R s => s.heap.get? it = some { cls := .type "longrange_iterator", dict := none, data := .fields #[rawInt x, rawInt left, rawInt step], slots := #[] } ∧
      R (.ok (.ret (Value.int x s.toks))) { s with heap := (s.heap.update it (Obj.mapFields fun y => y.setIfInBounds 0 (rawInt (x + step)))).update it (Obj.mapFields fun y => y.setIfInBounds 1 (rawInt (left - 1))), toks := s.toks + 1 }) :=
  .of_wp fun prog w A R s h => by obtain ⟨hp, g, d, tk, os⟩ := s; obtain ⟨hl, h⟩ := h; wp_walk; exact ⟨_, rfl, h⟩
section
variable {prog : Program} {w : World} {A : Around} {E : Value → Shared → Prop} {s : Shared}
theorem entry_iter : entryFor table "longrange_iterator.__iter__" = some Builtin.«dict_keyiterator.__iter__» :=
  entryFor_alias (id' := "dict_keyiterator.__iter__") (by kernel_rfl) (by first | rfl | decide +kernel | (unfold String.splitOn; simp +decide [String.splitOnAux])) (by decide +kernel) (by kernel_rfl)
theorem args_iter (a : Value) : argsOk "longrange_iterator.__iter__" ⟨[a], []⟩ := by
  unfold argsOk; kernel_rfl
theorem pyIter_long {it : Addr} {x left step : Int} {Q : Value → Shared → Prop} (hit : IsLong s.heap it x left step) (h : Q (.ref it) s) : wpAny (model prog w) A (pyIter (.ref it)) Q E s := by
  have hT : s.TypeIs (.ref it) "longrange_iterator" := ⟨_, hit, rfl⟩
  refine wpAny_pyIter_slot hT slot_iter (wpAny_call_entry slot_iter hT entry_iter ?_ (args_iter _))
  show wpAny _ _ (ret (.ref it)) _ _ s
  exact wpAny_pure ⟨_, rfl, "longrange_iterator", _, hT, slot_next.lookup, h⟩
theorem pyNext_item {it : Addr} {x left step : Int} {Q : Option Value → Shared → Prop} (hit : IsLong s.heap it x left step) (hleft : 0 < left)
    (hQ : ∀ h', IsLong h' it (x + step) (left - 1) step → Heap.SameBut it s.heap h' → Q (some (.int x s.toks)) { s with heap := h', toks := s.toks + 1 }) :
    wpAny (model prog w) A (pyNext (.ref it)) Q E s := by
  have hT : s.TypeIs (.ref it) "longrange_iterator" := ⟨_, hit, rfl⟩
  unfold pyNext
  refine wpAny_bind (wpAny_attempt (wpAny_callSpecial?_slot (name := Str.ofString "__next__") hT slot_next
    (call_meets slot_next hT entry_next (args_next _) (meets_next it x left step (by omega)) ⟨hit, ?_⟩)))
  exact wpAny_pure (hQ _ (Heap.get?_update_self _ (Heap.get?_update_self _ hit rfl) rfl) ((Heap.SameBut.update ..).trans (Heap.SameBut.update ..)))
theorem pyNext_end {it : Addr} {x left step : Int} {Q : Option Value → Shared → Prop} (hh : A.handled = none) (hit : IsLong s.heap it x left step) (hleft : left ≤ 0)
    (hQ : ∀ h', Heap.ExtBut it s.heap h' → Q none { s with heap := h' }) : wpAny (model prog w) A (pyNext (.ref it)) Q E s := by
  have hT : s.TypeIs (.ref it) "longrange_iterator" := ⟨_, hit, rfl⟩
  unfold pyNext
  refine wpAny_bind (wpAny_attempt (wpAny_callSpecial?_slot (name := Str.ofString "__next__") hT slot_next
    (wpAny_call_entry slot_next hT entry_next ?_ (args_next _))))
  unfold Builtin.«longrange_iterator.__next__»
  refine wpAny_bind (wpAny_of_eq (a := #[some (.ref it)]) (by kernel_rfl) ?_)
  show wpAny _ _ (Builtin.Iterators_pickling.intField _ (.ref it) 0 >>= _) _ _ s
  refine wpAny_bind ?_
  unfold Builtin.Iterators_pickling.intField
  refine wpAny_bind (wpAny_field hit rfl (x := rawInt x) rfl (wpAny_pure ?_))
  refine wpAny_bind (wpAny_bind (wpAny_field hit rfl (x := rawInt left) rfl (wpAny_pure ?_)))
  refine wpAny_bind (wpAny_bind (wpAny_field hit rfl (x := rawInt step) rfl (wpAny_pure ?_)))
  show wpAny _ _ (if left ≤ 0 then _ else _) _ _ s
  rw [if_pos hleft]
  refine wpAny_bind (wpAny_rule ?_)
  refine wpAny_bind ?_
  show wpAny _ _ (newExc (.type "StopIteration") [] >>= _) _ _ _
  refine wpAny_bind ?_
  simp only [newExc, newTuple]
  refine wpAny_bind (wpAny_newObj_type ?_ (by size_fits))
  refine wpAny_bind (m := firstArgMember _ _) (wpAny_of_eq (a := Value.none) (by first | rfl | (simp only [firstArgMember]; rfl)) ?_)
  refine wpAny_newObj_type ?_ (by size_fits)
  simp only [raiseNew]
  refine wpAny_pure (wpAny_bind (wpAny_bind (wpAny_handled ?_)))
  first | rw [show A.in1.handled = none from hh] | rw [hh]
  refine wpAny_throw ?_
  refine wpAny_bind (wpAny_isInstance (T := "StopIteration") (b := true) ⟨_, Heap.get?_push_size _ rfl, rfl⟩ isSubtype_stop ?_)
  exact wpAny_pure (hQ _ (((Heap.ExtBut.refl it s.heap).push _).push _))
theorem walks (hh : A.handled = none) (I : Addr) (a c : Int) (n : Nat) :
    Walks prog w A I [I] [I] n (fun i v => ∃ t, v = .int (a + i * c) t) (fun i h => IsLong h I (a + (i : Nat) * c) ((n : Int) - (i : Nat)) c) where
  sub := fun _ hb => hb
  frame := fun _ _ _ st hk => hk I (by simp) _ st
  item := fun i s Q E hi st hQ => by
    refine pyNext_item st (by omega) fun h' hit' hs' => ?_
    refine hQ _ h' _ ⟨_, rfl⟩ ?_ fun b o hb e => hs'.extBut b o (fun h => hb (by simp [h])) e
    have e1 : a + ((i + 1 : Nat) : Int) * c = a + (i : Int) * c + c := by push_cast; rw [Int.add_mul, Int.one_mul, Int.add_assoc]
    have e2 : (n : Int) - ((i + 1 : Nat) : Int) = (n : Int) - (i : Int) - 1 := by push_cast; omega
    rw [e1, e2]; exact hit'
  done := fun s Q E st hQ => pyNext_end hh st (by omega) fun h' he' => hQ h' s.toks fun b o hb e => he' b o (fun h => hb (by simp [h])) e
  self := fun _ _ _ _ st hQ => pyIter_long st hQ
theorem pyIter_range {r : Addr} {a b c : Int} {t u v : Tok} {Q : Value → Shared → Prop} (hr : IsRange s.heap r a b c t u v) (hbig : Builtin.Range.small a b c = false)
    (hQ : Q (.ref s.heap.objs.size) { s with heap := s.heap.push { cls := .type "longrange_iterator", data := .fields #[rawInt a, rawInt (Builtin.Range.rangeSize a b c), rawInt c] } }) :
    wpAny (model prog w) A (pyIter (.ref r)) Q E s := by
  have hT : s.TypeIs (.ref r) "range" := ⟨_, hr, rfl⟩
  refine wpAny_pyIter_slot hT F.slot_range_iter (call_meets F.slot_range_iter hT F.entry_range_iter (F.args_range_iter_1 _)
    (AutoRange.range___iter___range_0 r a b c t u v (by unfold Builtin.Range.small at hbig; simp only [hbig]; rfl)) ⟨hr, ?_⟩)
  unfold Builtin.Range.small at hbig
  simp only [hbig]
  exact ⟨"longrange_iterator", _, ⟨_, Heap.get?_push_size _ rfl, rfl⟩, slot_next.lookup, hQ⟩
theorem extend_range {R : Result → Shared → Prop} {r : Addr} {a b c : Int} {t u v : Tok} {n : Nat} (hh : A.handled = none) (hr : IsRange s.heap r a b c t u v) (hbig : Builtin.Range.small a b c = false)
    (hn : Builtin.Range.rangeSize a b c = n) (hlen : n ≤ 2 ^ 24) (S : Addr) (res : Value) (c₀ : Nat) (hS : s.heap.get? S = some { cls := .type "list", data := .seq #[] c₀ })
    (hR : ∀ h' tk acc' c', (∀ b o, b ≠ S → s.heap.get? b = some o → h'.get? b = some o) → h'.get? S = some { cls := .type "list", dict := none, data := .seq acc' c', slots := #[] } →
      ItemsOf (fun i v => ∃ t, v = .int (a + i * c) t) acc' n → R (.ok (.ret res)) { s with heap := h', toks := tk }) :
    wpAny (model prog w) A.in1 (Builtin.List.listExtendWith (.ref S) (.ref r) res)
      (fun fin s' => match fin with | .done f => R (.ok f) s' | .again c' => c'.quiet = true ∧ codeAny (model prog w) A c' R s') (fun e s' => R (.error e) s') s := by
  have hSr : S ≠ r := fun e => by rw [e, hr] at hS; simp at hS
  have hSlt : S < s.heap.objs.size := Heap.lt_size hS
  have hSI : S ≠ s.heap.objs.size := Nat.ne_of_lt hSlt
  have hSf : S ∉ [s.heap.objs.size] := fun hm => hSI (List.mem_singleton.mp hm)
  have W := (walks (prog := prog) (w := w) (A := A.in1) hh s.heap.objs.size a c n).toS
  have key : ∀ (h : Heap) (c₁ tk : Nat), IsLong h s.heap.objs.size (a + ((0 : Nat) : Int) * c) ((n : Int) - ((0 : Nat) : Int)) c → (∀ b o, b ≠ S → s.heap.get? b = some o → h.get? b = some o) →
      h.get? S = some { cls := .type "list", data := .seq #[] c₁ } → codeAny (model prog w) A (.builtin "list.extend.loop" ⟨[.ref S, .ref s.heap.objs.size, res], []⟩) R { s with heap := h, toks := tk } := by
    intro h c₁ tk hit hk hS₁
    refine codeAny_extend_loopS W (by rw [sizeLine_eq]; omega) S hSf res n 0 _ #[] c₁ rfl (Nat.zero_le _) hit hS₁ (ItemsOf.nil _) fun s' acc' c' hm hS' hacc => ?_
    rw [Moved.eq_with hm]
    refine hR s'.heap s'.toks acc' c' (fun b o hb e => hm.heap b o (fun hmem => ?_) (hk b o hb e)) hS' hacc
    rcases List.mem_cons.mp hmem with e' | hmem
    · exact hb e'
    · exact absurd (Heap.lt_size e) (by rw [List.mem_singleton.mp hmem]; exact Nat.lt_irrefl _)
  unfold Builtin.List.listExtendWith
  refine wpAny_bind (wpAny_typeOf (T := "range") ⟨_, hr, rfl⟩ ?_)
  have h1 : Builtin.List.listSameRef (.ref S) (.ref r) = false := by simp [Builtin.List.listSameRef, hSr]
  have h2 : (Value.type "range" == Value.type "list") = false := by decide
  have h3 : (Value.type "range" == Value.type "tuple") = false := by decide
  simp only [h1, h2, h3, Bool.or_false, Bool.false_eq_true, if_false]
  refine wpAny_bind (pyIter_range hr hbig ?_)
  refine wpAny_bind (wpAny_holding (wpAny_hint_range (n := n) (Heap.get?_push_of_some _ hr) hn hlen ?_))
  have hit₁ : IsLong (s.heap.push { cls := .type "longrange_iterator", data := .fields #[rawInt a, rawInt (Builtin.Range.rangeSize a b c), rawInt c] }) s.heap.objs.size (a + ((0 : Nat) : Int) * c) ((n : Int) - ((0 : Nat) : Int)) c := by
    show IsLong _ _ _ _ _; rw [hn]; simpa using Heap.get?_push_size _ rfl
  have hS₁ := Heap.get?_push_of_some { cls := .type "longrange_iterator", data := .fields #[rawInt a, rawInt (Builtin.Range.rangeSize a b c), rawInt c] } hS
  refine wpAny_ite_split (fun _ => ?_) (fun _ => wpAny_pure ⟨plainId_quiet F.plain_extend_loop _, key _ c₀ _ hit₁ (fun b o _ e => Heap.get?_push_of_some _ e) hS₁⟩)
  refine wpAny_bind (wpAny_rule ?_)
  refine wpAny_bind ?_
  show wpAny _ _ (updateSeq S (·.push .none) >>= fun _ => updateSeq S (·.pop)) _ _ _
  refine wpAny_bind (wpAny_updateSeq hS₁ rfl ?_)
  have hS₂ := Heap.get?_update_self (Obj.mapSeq (·.push Value.none)) hS₁ rfl
  refine wpAny_updateSeq (hz := by seq_fits) hS₂ rfl ?_
  have hS₃ := Heap.get?_update_self (Obj.mapSeq (·.pop)) hS₂ rfl
  refine wpAny_pure ⟨plainId_quiet F.plain_extend_loop _, key _ _ _ ?_ (fun b o hb e => ?_) hS₃⟩
  · exact (Heap.get?_update_other _ _ hSI).trans ((Heap.get?_update_other _ _ hSI).trans hit₁)
  · exact (Heap.get?_update_other _ _ (Ne.symm hb)).trans ((Heap.get?_update_other _ _ (Ne.symm hb)).trans (Heap.get?_push_of_some _ e))
end
end LR
end
section
variable {X : Cx} {j : Nat} {a b : Expr} {ta tb : RX} {p pos p2 pos2 : Pos}
end
section
variable {X : Cx} {j : Nat} {W : WX} {e a b c o : Expr} {es rest : List Expr} {σ : St} {H H1 : Hp} {Q : VK} {pos p apos cpos p2 : Pos} {t ta tb to : RX} {tr : RA} {n name : Str} {C : Addr} {k : Nat}
/-! ## slices -/
abbrev RP := St → Hp → (Option Int → Hp → Prop) → WX → Prop
structure SP (X : Cx) (j : Nat) (t : RP) (oe : Option Expr) : Prop where
  ex : ∃ to, PO X oe to ∧ ∀ {W}, Cn X (upW W) j → ∀ {σ H Q}, t σ H Q W → ∀ H1, Ex H H1 → ∀ F : Option Int → Hp → Prop, (∀ i H2 H', Ex H' H2 → Q i H' → F i H2) → to σ H1 F
def pNo : RP := fun _ H Q _ => Q none H
def pAt (t : RX) : RP := fun σ H Q W => t σ H (fun x H1 => match x with
  | .int i => Q (some i) H1
  | _ => False) W
theorem p_no : SP X j pNo none := ⟨_, po_none, fun c σ H Q q H1 x F k => k _ _ _ x q⟩
theorem p_at (h : SX X j t e) : SP X j (pAt t) (some e) := ⟨_, po_some pe_W, fun c σ H Q q H1 x F k => (h.run c q).t x fun v H2 ⟨H3, x3, q⟩ => by
  cases v <;> first | exact ⟨_, rfl, k _ _ _ x3 q⟩ | exact q.elim⟩
abbrev RSl := V → Option Int → Option Int → Hp → VK → Prop
def SSl (X : Cx) (r : RSl) : Prop := ∃ r0, SlR X r0 ∧ ∀ x lo hi H Q, r x lo hi H Q → ∀ H1, Ex H H1 → r0 x lo hi H1 (up Q)
def rSl (r : RSl) (t : RX) (lo hi : RP) : RX := fun σ H Q W => t σ H (fun x H1 => lo σ H1 (fun l H2 => hi σ H2 (fun u H3 => r x l u H3 Q) W) W) W
theorem s_sl {r : RSl} {tl th : RP} {lo hi : Option Expr} (hr : SSl X r) (h : SX X j t e) (hl : SP X j tl lo) (hh : SP X j th hi) : SX X j (rSl r t tl th) (.Subscript e (.Slice lo hi none p2) pos) := by
  obtain ⟨r0, h0, k⟩ := hr
  obtain ⟨t1, p1, k1⟩ := hl.ex
  obtain ⟨t2, p2, k2⟩ := hh.ex
  exact ⟨fun c σ H Q q => .of (pe_slice h0 pe_W p1 p2) fun H1 x => (h.run c q).t x fun v H2 ⟨H3, x3, q⟩ => k1 c q H2 x3 _ fun l H4 H5 x5 q => k2 c q H4 x5 _ fun u H6 H7 x7 q => k _ _ _ _ _ q H6 x7⟩
def slL (K : PySem.W.Frag) : RSl := fun x lo hi H Q => ∃ a xs, x = .ref a ∧ SqL K H a xs ∧ ∀ p, H p = none → Q (.ref p) (upd H p (.lst (cutV xs lo hi)))
theorem l_lst : SSl X (slL X.K) := ⟨_, sl_list, fun _ _ _ H _ ⟨a, xs, e, h, q⟩ H1 x => ⟨a, xs, e, x.sqL h, fun p n => ⟨_, x.set p _, q p (x.free n)⟩⟩⟩
/-! ## equality of data -/
def oEqD (K : PySem.W.Frag) : RO := fun x y H Q => ∃ d e, Dp K H x d ∧ Dp K H y e ∧ SeqAt.shaped d = true ∧ SeqAt.shaped e = true ∧ Q (.bl (PyData.eqv d e)) H
def oNeD (K : PySem.W.Frag) : RO := fun x y H Q => ∃ d e, Dp K H x d ∧ Dp K H y e ∧ SeqAt.shaped d = true ∧ SeqAt.shaped e = true ∧ Q (.bl (!PyData.eqv d e)) H
theorem SO.of {f : Value → Value → Sem Value} {r r0 : RO} (h : OpR X f r0) (k : ∀ x y H Q, r x y H Q → ∀ H1, Ex H H1 → r0 x y H1 (up Q)) : SO X f r := fun x y H Q q => .of h fun H1 e => k _ _ _ _ q H1 e
/-- with more room -/
def SOr2 (X : Cx) (f : Value → Value → Sem Value) (r : RO) : Prop := X.A.units + 64 < cLine → SO X f r
theorem b_cmpr2 {op : CmpOp} {r : RO} (ho : SOr2 X (compareOp op) r) (ha : SX X j ta a) (hb : SX X j tb b) (hm : behindInMarks op b = false := by first | exact nomark _ | with_unfolding_all rfl) : SB X j (tCmp r ta tb) (.Compare a [op] [b] pos) :=
  ⟨fun c _ _ _ h => (b_cmp (ho c.units) ha hb hm).run c h⟩
theorem s_cmpr2 {op : CmpOp} {r : RO} (ho : SOr2 X (compareOp op) r) (ha : SX X j ta a) (hb : SX X j tb b) (hm : behindInMarks op b = false := by first | exact nomark _ | with_unfolding_all rfl) : SX X j (rBin r ta tb) (.Compare a [op] [b] pos) :=
  ⟨fun c _ _ _ h => (s_cmp (ho c.units) ha hb hm).run c h⟩
theorem o_eqD : SOr2 X (compareOp .Eq) (oEqD X.K) := fun hu => .of (op_eqD hu) fun x y H Q ⟨d, e, h1, h2, s1, s2, q⟩ H1 x => ⟨d, e, Dp.ex x h1, Dp.ex x h2, s1, s2, H, x, q⟩
theorem o_neD : SOr2 X (compareOp .NotEq) (oNeD X.K) := fun hu => .of (op_neD hu) fun x y H Q ⟨d, e, h1, h2, s1, s2, q⟩ H1 x => ⟨d, e, Dp.ex x h1, Dp.ex x h2, s1, s2, H, x, q⟩
/-! ## tuples -/
/-! ## methods of built-in types -/
/-! ## max, min, sorted of a list -/
/-! ## an instance's own len, repr, == -/
end
section
variable {X : Cx} {j : Nat} {W : WX} {a b : Expr} {pos : Pos} {ta tb : RX} {C C' : Addr} {k : Nat}
/-- an operator that calls: at a context's own level -/
structure SOc (X : Cx) (j : Nat) (f : Value → Value → Sem Value) (r : RO) : Prop where
  run : ∀ {W}, Cn X W j → SO X f r
end
/-! ## methods and classes called with keywords -/
section
variable {X : Cx} {j : Nat} {W : WX} {e a b c o : Expr} {es rest : List Expr} {kws : List Keyword} {σ : St} {H H1 : Hp} {Q : VK} {pos p apos : Pos} {t ta tb to : RX} {tr tk : RA} {n f m : Str} {C : Addr} {sp : Sp} {k nv nk : Nat} {ps ks : List Str} {gV : List V → List V → List V}
end
section
variable {P : Program} {w : World} {K : PySem.W.Frag} {mg : Str → Option Value} {base : Heap} {n : Str} {st : Stmt} {ps N : List Str} {k : Nat} {zs : RS} {kws : List (Str × V)}
theorem DefK.rfng (d : DefK K mg n st kws) (S : FnScope N ps (defScope st)) (hb : Body P w K mg base N n st d.f k zs) : FnG P w K mg base (k + 1) d.f d.fd ps (rFn ps.length N zs) := by
  obtain ⟨oc, od, dV, kV, doc, pm, an, cdv, ct, osl, e, lk, hcd, hD, hK⟩ := d.F.ex
  rcases hD with ⟨_, rfl⟩ | ⟨z, _⟩
  · exact fng_of ⟨⟨oc, od, kV, doc, pm, an, cdv, ct, osl, e, lk, hcd⟩, d.F.kp⟩ S (fun vs H Q E h => h.1) fun cd A outer s H1 E1 W vs H Q E c o hW h => by
      have c2 : Cn (fx P w K mg base N n st d.f cd A outer s H1 E1) (upW fun c d _ H' => E c d H') k := ⟨c.room, c.un, c.gd, c.tk.imp fun c0 d0 σ0 H0 ⟨H2, x2, q⟩ => c.wu _ _ _ _ _ (hW _ _ _ _ q) x2, fun c d σ H H' ⟨H2, x2, q⟩ x => ⟨H2, x2.trans x, q⟩⟩
      exact ((hb cd A outer s H1 E1).run c2 o h.2).le rfn_ends
  · exact absurd rfl z
end
/-! ## what queues compute -/
def wkF : Int → List Int → Int
  | f, [] => f
  | f, v :: r => wkF (if precB f v = true then v else f) r
def wk : List Int → Int
  | [] => 0
  | x :: r => wkF x r
def dropW : Nat → List Int → List Int
  | 0, xs => xs
  | n + 1, xs => dropW n (xs.erase (wk xs))
def insI (x : Int) : List Int → List Int
  | [] => [x]
  | y :: r => if x ≤ y then x :: y :: r else y :: insI x r
def srt : List Int → List Int
  | [] => []
  | x :: r => insI x (srt r)
def rgI (lo hi : Int) : List Int := (List.range (hi - lo + 1).toNat).map fun (i : Nat) => lo + (i : Int)
theorem rgI_mem {lo hi v : Int} : v ∈ rgI lo hi ↔ lo ≤ v ∧ v ≤ hi := by
  unfold rgI
  rw [List.mem_map]
  constructor
  · rintro ⟨i, hm, rfl⟩
    have := List.mem_range.mp hm
    omega
  · rintro ⟨h1, h2⟩
    exact ⟨(v - lo).toNat, List.mem_range.mpr (by omega), by omega⟩
theorem rgI_len (lo hi : Int) : (rgI lo hi).length = (hi - lo + 1).toNat := by simp [rgI]
/-- others, behind the strongest ones -/
def othR (w : List Int) (lo hi : Int) (cap : Nat) : List Int := w ++ strongL lo (hi - 1) (cap - 1)
def aftR (w : List Int) (lo hi : Int) (cap : Nat) : List Int :=
  if (w.length : Int) + hi - lo + 1 ≤ cap then w ++ rgI lo hi else srt (dropW ((othR w lo hi cap).length - (cap - 1)) (othR w lo hi cap)) ++ [hi]
/-- all of them lie between the bounds -/
def Btw (a b : Int) (xs : List Int) : Prop := ∀ v ∈ xs, a ≤ v ∧ v ≤ b
theorem Btw.mono {a b c d : Int} {xs : List Int} (h : Btw a b xs) (h1 : c ≤ a) (h2 : b ≤ d) : Btw c d xs := fun v hv => by have := h v hv; omega
theorem cutV_tail (xs : List V) : cutV xs (some 1) none = xs.drop 1 := by
  have e : HT.sIx xs.length 0 (some 1) = min 1 xs.length := HT.sIx_nat _ _ 1
  unfold cutV
  rw [e, HT.sIx_none]
  by_cases h : 1 ≤ xs.length
  · rw [Nat.min_eq_left h, List.take_of_length_le (by simp)]
  · have : xs = [] := List.length_eq_zero_iff.mp (by omega)
    subst this; rfl
/-! ## queues in the heap -/
abbrev Big (v : Int) : Prop := v < 1000000000000000000000000000000000000000000000000000000000000000
def mx (i j : Int) : Int := if j > i then j else i
/-- outside L all stays -/
def Fr (L : List Addr) (H H' : Hp) : Prop := ∀ b o, b ∉ L → H b = some o → H' b = some o
theorem Fr.of_ex {L : List Addr} {H H' : Hp} (x : Ex H H') : Fr L H H' := fun b o _ h => x b o h
theorem Fr.trans {L : List Addr} {H H1 H2 : Hp} (a : Fr L H H1) (b : Fr L H1 H2) : Fr L H H2 := fun c o n h => b c o n (a c o n h)
theorem Fr.upd {L : List Addr} {H H1 : Hp} {p : Addr} {o : HO} (a : Fr L H H1) (h : p ∈ L ∨ H1 p = none) : Fr L H (L2.upd H1 p o) := fun b u n e => by
  have e1 := a b u n e
  by_cases z : b = p
  · subst z
    rcases h with h | h
    · exact absurd h n
    · rw [h] at e1; cases e1
  · rw [upd_ne z]; exact e1
structure Arr where
  mark : Int
  w : List Int
  low : Int
  high : Int
def aftA (w : List Int) (lo v : Int) (cap : Nat) : List Int := if v < lo then w else aftR w lo v cap
structure WOk (w : List Int) (lo : Int) (cap : Nat) : Prop where
  c2 : 2 ≤ cap
  c9 : cap ≤ 9
  len : w.length ≤ cap
  l0 : 0 ≤ lo
  b : Btw 0 (lo - 1) w
theorem WOk.hi0 {w : List Int} {lo hi : Int} {cap : Nat} (h : WOk w lo cap) (hl : lo ≤ hi) (e : hi = 0) : (w.length : Int) + hi - lo + 1 ≤ cap := by
  have h2 := h.c2
  have h0 := h.l0
  have : w = [] := List.eq_nil_iff_forall_not_mem.mpr fun v hv => by have := h.b v hv; omega
  subst this
  simp
  omega
/-- the bisection of a drop -/
def bisF (r : Arr) (cap : Nat) (v : Int) : Nat → Int → Int → Int × Int
  | 0, p, a => (p, a)
  | n + 1, p, a => if a - p > 1 then (if v ∈ aftA r.w r.low ((p + a) / 2) cap then bisF r cap v n ((p + a) / 2) a else bisF r cap v n p ((p + a) / 2)) else (p, a)
def bisR (r : Arr) (cap : Nat) (v : Int) : Int × Int := bisF r cap v (r.high - mx v (r.low - 1)).toNat (mx v (r.low - 1)) r.high
abbrev Drop := Int × Int × List Int
def dropA (r : Arr) (cap : Nat) (v : Int) : Drop := (r.mark, (bisR r cap v).2, (aftA r.w r.low (bisR r cap v).1 cap).filter fun o => !decide (o = v))
def holdsA (r : Arr) (v : Int) : Bool := decide (v ∈ r.w) || (decide (r.low ≤ v) && decide (v ≤ r.high))
def Drop.data (d : Drop) : PyData := .tuple [.int d.1, .int d.2.1, .tuple (d.2.2.map PyData.int)]
abbrev Call := Int × Option Int
structure Qst where
  size : Nat
  first : Int
  mark : Int
  latest : Option Int
  kept : List Int
  most : Int
  calls : List Call
def optV : Option Int → V
  | none => .non
  | some i => .int i
def callV : Call → List V
  | (l, some h) => [.int l, .int h]
  | (v, none) => [.int v]
def Qst.bound (q : Qst) : Int := match q.latest with
  | none => q.first - 1
  | some l => l
def Qst.new (cap : Nat) (start : Int) : Qst := ⟨cap, start, start - 1, none, [], 0, []⟩
def Qst.eqv (q r : Qst) : Bool := decide (q.size = r.size ∧ q.first = r.first ∧ q.mark = r.mark ∧ q.latest = r.latest ∧ q.kept = r.kept)
/-- the calls ascend, from the bound b on -/
def callsOk (b : Int) : List Call → Prop
  | [] => True
  | (l, some h) :: r => b < l ∧ l ≤ h ∧ Big h ∧ callsOk h r
  | (v, none) :: r => 0 ≤ v ∧ Big v ∧ callsOk b r
def endB (b : Int) : List Call → Int
  | [] => b
  | (_, some h) :: r => endB h r
  | (_, none) :: r => endB b r
structure QOk (q : Qst) : Prop where
  c2 : 2 ≤ q.size
  c9 : q.size ≤ 9
  f0 : 0 ≤ q.first
  f1 : Big q.first
  m0 : -1 ≤ q.mark
  m1 : Big q.mark
  b1 : Big q.bound
  b0 : q.first - 1 ≤ q.bound
  klen : q.kept.length ≤ q.size
  kb : Btw 0 q.bound q.kept
  cs : callsOk (q.first - 1) q.calls
  ce : endB (q.first - 1) q.calls = q.bound
  clen : q.calls.length ≤ 100000
theorem QOk.new {cap : Nat} {start : Int} (c2 : 2 ≤ cap) (c9 : cap ≤ 9) (s0 : 0 ≤ start) (s1 : Big start) : QOk (Qst.new cap start) :=
  ⟨c2, c9, s0, s1, by show -1 ≤ start - 1; omega, by show Big (start - 1); unfold Big at *; omega, by show Big (start - 1); unfold Big at *; omega, Int.le_refl _, Nat.zero_le _, (fun v hv => nomatch hv), trivial, rfl, Nat.zero_le _⟩
def fsQ (q : Qst) (kl cl : Addr) : List (Str × V) := [("size", .int q.size), ("first", .int q.first), ("mark", .int q.mark), ("latest", optV q.latest), ("kept", .ref kl), ("most_lag", .int q.most), ("calls", .ref cl)]
def CallsAt (H : Hp) (cs : List Addr) (ks : List Call) : Prop := cs.length = ks.length ∧ ∀ (i : Nat) c k, cs[i]? = some c → ks[i]? = some k → H c = some (.tup (callV k))
structure QAt (C : Addr) (H : Hp) (a kl cl : Addr) (q : Qst) : Prop where
  ins : ∃ dx, H a = some (.ins C dx (fsQ q kl cl))
  kept : H kl = some (.lst (q.kept.map V.int))
  calls : ∃ cs : List Addr, H cl = some (.lst (cs.map V.ref)) ∧ CallsAt H cs q.calls
theorem CallsAt.fr {H H' : Hp} {L : List Addr} {cs : List Addr} {ks : List Call} (h : CallsAt H cs ks) (f : Fr L H H') (hL : ∀ b ∈ L, ∀ xs, H b ≠ some (.tup xs)) : CallsAt H' cs ks :=
  ⟨h.1, fun i c k e1 e2 => f _ _ (fun m => hL _ m _ (h.2 i c k e1 e2)) (h.2 i c k e1 e2)⟩
theorem QAt.fr {C : Addr} {H H' : Hp} {L : List Addr} {a kl cl : Addr} {q : Qst} (h : QAt C H a kl cl q) (f : Fr L H H') (n1 : a ∉ L) (n2 : kl ∉ L) (n3 : cl ∉ L) (hL : ∀ b ∈ L, ∀ xs, H b ≠ some (.tup xs)) : QAt C H' a kl cl q := by
  obtain ⟨⟨dx, h1⟩, h2, cs, h3, h4⟩ := h
  exact ⟨⟨dx, f _ _ n1 h1⟩, f _ _ n2 h2, cs, f _ _ n3 h3, h4.fr f hL⟩
theorem QAt.ex {C : Addr} {H H' : Hp} {a kl cl : Addr} {q : Qst} (h : QAt C H a kl cl q) (x : Ex H H') : QAt C H' a kl cl q := h.fr (L := []) (.of_ex x) (by simp) (by simp) (by simp) (fun _ m => by cases m)
theorem ne_kind {H : Hp} {a b : Addr} {o o' : HO} (h1 : H a = some o) (h2 : H b = some o') (ne : o ≠ o') : a ≠ b := fun e => by
  subst e
  rw [h1] at h2
  exact ne (Option.some.inj h2)
theorem QAt.set {C : Addr} {H : Hp} {a kl kl2 cl dx : Addr} {q q2 : Qst} {fs : List (Str × V)} (h : QAt C H a kl cl q) (hd : fs = fsQ q2 kl2 cl) (hk : H kl2 = some (.lst (q2.kept.map V.int))) (hc : q2.calls = q.calls) : QAt C (upd H a (.ins C dx fs)) a kl2 cl q2 := by
  obtain ⟨⟨dx0, h1⟩, h2, cs, h3, h4⟩ := h
  have n1 : kl2 ≠ a := ne_kind hk h1 (fun e => by cases e)
  have n2 : cl ≠ a := ne_kind h3 h1 (fun e => by cases e)
  refine ⟨⟨dx, by rw [upd_same, hd]⟩, by rw [upd_ne n1]; exact hk, cs, by rw [upd_ne n2]; exact h3, hc ▸ h4.fr (L := [a]) (.upd (.of_ex (Ex.refl _)) (.inl (by simp))) fun b hb xs e => ?_⟩
  simp at hb
  subst hb
  rw [h1] at e
  cases e
theorem QAt.call {C : Addr} {H : Hp} {a kl cl t : Addr} {q : Qst} {c : Call} (h : QAt C H a kl cl q) (ht : H t = some (.tup (callV c))) (nk : kl ≠ cl) (cs : List Addr) (h3 : H cl = some (.lst (cs.map V.ref))) (h4 : CallsAt H cs q.calls) : QAt C (upd H cl (.lst (cs.map V.ref ++ [.ref t]))) a kl cl { q with calls := q.calls ++ [c] } := by
  obtain ⟨⟨dx, h1⟩, h2, _⟩ := h
  have n1 : a ≠ cl := ne_kind h1 h3 (fun e => by cases e)
  have n2 : t ≠ cl := ne_kind ht h3 (fun e => by cases e)
  refine ⟨⟨dx, by rw [upd_ne n1]; exact h1⟩, by rw [upd_ne nk]; exact h2, cs ++ [t], by rw [upd_same]; simp, by simp [h4.1], fun i x k e1 e2 => ?_⟩
  by_cases hi : i < cs.length
  · rw [List.getElem?_append_left hi] at e1
    rw [List.getElem?_append_left (by rw [← h4.1]; exact hi)] at e2
    have e := h4.2 i x k e1 e2
    rw [upd_ne (ne_kind e h3 (fun e => by cases e))]
    exact e
  · have hi2 : i = cs.length := by
      have := (List.getElem?_eq_some_iff.mp e1).1
      simp at this
      omega
    subst hi2
    rw [List.getElem?_append_right (Nat.le_refl _), Nat.sub_self] at e1
    rw [List.getElem?_append_right (by rw [h4.1]; exact Nat.le_refl _), h4.1, Nat.sub_self] at e2
    simp at e1 e2
    subst e1 e2
    rw [upd_ne n2]
    exact ht
/-! ## comprehensions by the turn's number, and those that make things -/
def del (H : Hp) (d : Addr) : Hp := fun b => if b = d then none else H b
theorem del_same {H : Hp} {d : Addr} : del H d d = none := if_pos rfl
theorem del_ne {H : Hp} {d b : Addr} (h : b ≠ d) : del H d b = H b := if_neg h
section
variable {n m : Nat} {G : Hp → Prop} {Y : Nat → Hp → VK → Prop} {g : RG} {elt : RX} {vs : List Nat} {σ : St} {H : Hp} {Q : VK} {xs : List V} {lo : Int}
end
/-! ## their data -/
theorem lay_ints : ∀ xs : List Int, PyData.canLayAll0 (xs.map PyData.int) = true
  | [] => rfl
  | x :: r => by
    show (PyData.canLay0 (.int x) && PyData.canLayAll0 (r.map PyData.int)) = true
    rw [lay_ints r]
    rfl
theorem shaped_li (xs : List Int) : SeqAt.shaped (.list (xs.map PyData.int)) = true := by
  simp [SeqAt.shaped, PyData.canLay0, lay_ints, PyData.depth, depth_ints]
def optD : Option Int → PyData
  | none => .none
  | some i => .int i
theorem dp_opt {K : PySem.W.Frag} {H : Hp} (o : Option Int) : Dp K H (optV o) (optD o) := by
  cases o with
  | none => exact .non
  | some i => exact .int i
def Qst.data (q : Qst) : PyData := .tuple [.int q.size, .int q.first, .int q.mark, optD q.latest, .list (q.kept.map PyData.int)]
theorem Qst.shaped (q : Qst) : SeqAt.shaped q.data = true := by
  cases h : q.latest <;> simp [SeqAt.shaped, Qst.data, h, optD, PyData.canLay0, PyData.canLayAll0, lay_ints, PyData.depth, PyData.depthAll, depth_ints]
/-! ## the order of strength -/
theorem prec_iff {v u : Int} (hv : 0 ≤ v) (hu : 0 ≤ u) : precB v u = true ↔ (v = 0 ∧ 0 < u) ∨ (0 < v ∧ 0 < u ∧ (lowb u < lowb v ∨ (lowb v = lowb u ∧ u < v))) := by
  unfold precB
  by_cases h1 : v = 0
  · subst h1
    simp
  · by_cases h2 : u = 0
    · subst h2
      simp [h1]
    · rw [if_neg (by simp [h1, h2])]
      by_cases h3 : lowb v = lowb u
      · rw [if_pos h3, decide_eq_true_eq]
        omega
      · rw [if_neg h3, decide_eq_true_eq]
        omega
theorem prec_irr {v : Int} (hv : 0 ≤ v) : precB v v = false := by
  cases h : precB v v with
  | false => rfl
  | true => have := (prec_iff hv hv).mp h; omega
theorem precB_tr {a b c : Int} (ha : 0 ≤ a) (hb : 0 ≤ b) (hc : 0 ≤ c) (h1 : precB a b = true) (h2 : precB b c = true) : precB a c = true := by
  rw [prec_iff ha hb] at h1
  rw [prec_iff hb hc] at h2
  rw [prec_iff ha hc]
  omega
theorem prec_tri {a b : Int} (ha : 0 ≤ a) (hb : 0 ≤ b) (ne : a ≠ b) : precB a b = true ∨ precB b a = true := by
  rw [prec_iff ha hb, prec_iff hb ha]
  omega
theorem prec_asym {a b : Int} (ha : 0 ≤ a) (hb : 0 ≤ b) (h1 : precB a b = true) (h2 : precB b a = true) : False := by
  have := precB_tr ha hb ha h1 h2
  rw [prec_irr ha] at this
  cases this
/-! ## odd multiples, strongest -/
theorem oddFrom_odd {low p : Int} (hp : 0 < p) : ∀ (c : Nat) (last : Int), last % 2 = 1 →
    (∀ v ∈ oddFrom low p c last, ∃ m, v = m * p ∧ m % 2 = 1 ∧ 0 < m ∧ m ≤ last ∧ low ≤ v) ∧ (oddFrom low p c last).Pairwise (fun a b => b < a) ∧
    (∀ m, m % 2 = 1 → 0 < m → m ≤ last → low ≤ m * p → m * p ∉ oddFrom low p c last → (oddFrom low p c last).length = c ∧ ∀ v ∈ oddFrom low p c last, m * p < v)
  | 0, last, _ => ⟨(fun v h => nomatch h), .nil, fun m _ _ _ _ _ => ⟨rfl, (fun v h => nomatch h)⟩⟩
  | c + 1, last, ho => by
    obtain ⟨i1, i2, i3⟩ := oddFrom_odd (low := low) hp c (last - 2) (by omega)
    unfold oddFrom
    by_cases hc : (decide (last > 0) && decide (last * p ≥ low)) = true
    · rw [if_pos hc]
      simp only [Bool.and_eq_true, decide_eq_true_eq] at hc
      have lt : ∀ m, m ≤ last - 2 → m * p < last * p := fun m hm => Int.mul_lt_mul_of_pos_right (by omega) hp
      refine ⟨fun v hv => ?_, List.pairwise_cons.mpr ⟨fun v hv => ?_, i2⟩, fun m h1 h2 h3 h4 h5 => ?_⟩
      · rcases List.mem_cons.mp hv with rfl | hv
        · exact ⟨last, rfl, ho, hc.1, Int.le_refl _, hc.2⟩
        · obtain ⟨m, e, a, b, c, d⟩ := i1 v hv
          exact ⟨m, e, a, b, by omega, d⟩
      · obtain ⟨m, rfl, a, b, c, d⟩ := i1 v hv
        exact lt m c
      · have ne : m ≠ last := fun e => h5 (by rw [e]; exact List.mem_cons_self ..)
        have hm : m ≤ last - 2 := by omega
        obtain ⟨j1, j2⟩ := i3 m h1 h2 hm h4 (fun z => h5 (List.mem_cons_of_mem _ z))
        refine ⟨by rw [List.length_cons, j1], fun v hv => ?_⟩
        rcases List.mem_cons.mp hv with rfl | hv
        · exact lt m hm
        · exact j2 v hv
    · rw [if_neg hc]
      refine ⟨(fun v h => nomatch h), .nil, fun m h1 h2 h3 h4 _ => ?_⟩
      exfalso
      apply hc
      simp only [Bool.and_eq_true, decide_eq_true_eq]
      have : m * p ≤ last * p := Int.mul_le_mul_of_nonneg_right h3 (by omega)
      omega
theorem lastOf_odd {hi p : Int} : lastOf hi p % 2 = 1 := by
  unfold lastOf
  by_cases h : hi / p % 2 = 0
  · rw [if_pos (decide_eq_true h)]; omega
  · rw [if_neg (by rw [decide_eq_true_eq]; exact h)]; omega
theorem le_lastOf {hi p m : Int} (hp : 0 < p) (hm : m % 2 = 1) : m ≤ lastOf hi p ↔ m * p ≤ hi := by
  rw [← Int.le_ediv_iff_mul_le hp]
  unfold lastOf
  by_cases h : hi / p % 2 = 0
  · rw [if_pos (decide_eq_true h)]; omega
  · rw [if_neg (by rw [decide_eq_true_eq]; exact h)]
theorem lowb_mul {m : Int} {k : Nat} (hm : m % 2 = 1) (h0 : 0 < m) : lowb (m * 2 ^ k) = 2 ^ k := by
  have hp : (0 : Int) < 2 ^ k := Int.pow_pos (by decide)
  refine lowb_is (Int.mul_pos h0 hp) (Int.mul_emod_left _ _) ?_
  rw [Int.mul_comm 2, Int.mul_comm m, Int.mul_emod_mul_of_pos _ _ hp, hm, Int.mul_one]
  omega
theorem of_lowb {v : Int} {k : Nat} (h0 : 0 < v) (h : lowb v = 2 ^ k) : ∃ m, v = m * 2 ^ k ∧ m % 2 = 1 ∧ 0 < m := by
  have hp : (0 : Int) < 2 ^ k := Int.pow_pos (by decide)
  obtain ⟨j, e1, e2, e3⟩ := lowb_two h0
  rw [← e1, h] at e2 e3
  have e4 : v = v / 2 ^ k * 2 ^ k := (Int.ediv_mul_cancel_of_emod_eq_zero e2).symm
  refine ⟨v / 2 ^ k, e4, ?_, ?_⟩
  · rw [e4, Int.mul_comm 2, Int.mul_comm (v / 2 ^ k), Int.mul_emod_mul_of_pos _ _ hp] at e3
    have : v / 2 ^ k % 2 ≠ 0 := fun z => e3 (by rw [z, Int.mul_zero])
    omega
  · exact Int.ediv_pos_of_pos_of_dvd h0 (by omega) (Int.dvd_of_emod_eq_zero e2)
theorem lowb_cases {v : Int} {k : Nat} (h0 : 0 < v) (h : 2 ^ k ≤ lowb v) : lowb v = 2 ^ k ∨ 2 ^ (k + 1) ≤ lowb v := by
  obtain ⟨j, e, _⟩ := lowb_two h0
  rw [e] at h ⊢
  by_cases hj : j ≤ k
  · have : (2 : Int) ^ j ≤ 2 ^ k := pow_mono hj
    exact .inl (by omega)
  · exact .inr (pow_mono (by omega))
/-- the first of S in the order, at most n of them -/
structure Top (S : Int → Prop) (n : Nat) (f : List Int) : Prop where
  len : f.length ≤ n
  pw : f.Pairwise (fun a b => precB a b = true)
  sub : ∀ v ∈ f, S v
  out : ∀ u, S u → u ∉ f → f.length = n ∧ ∀ v ∈ f, precB v u = true
structure StInv (lo hi : Int) (n k : Nat) (f : List Int) : Prop where
  len : f.length ≤ n
  pw : f.Pairwise (fun a b => precB a b = true)
  sub : ∀ v ∈ f, (lo ≤ v ∧ v ≤ hi ∧ 0 ≤ v) ∧ (v = 0 ∨ 2 ^ k ≤ lowb v)
  part : f.length < n → ∀ u, lo ≤ u → u ≤ hi → 0 ≤ u → (u = 0 ∨ 2 ^ k ≤ lowb u) → u ∈ f
  full : f.length = n → ∀ u, lo ≤ u → u ≤ hi → 0 ≤ u → u ∉ f → ∀ v ∈ f, precB v u = true
theorem stInv_step {lo hi : Int} {n k : Nat} {f : List Int} (h0 : 0 ≤ lo) (hl : f.length < n) (I : StInv lo hi n (k + 1) f) : StInv lo hi n k (f ++ oddFrom lo (2 ^ k) (n - f.length) (lastOf hi (2 ^ k))) := by
  have hp : (0 : Int) < 2 ^ k := Int.pow_pos (by decide)
  have e2 : (2 : Int) ^ (k + 1) = 2 ^ k * 2 := Int.pow_succ 2 k
  obtain ⟨i1, i2, i3⟩ := oddFrom_odd (low := lo) hp (n - f.length) (lastOf hi (2 ^ k)) lastOf_odd
  have ol := oddFrom_len (low := lo) (power := 2 ^ k) (n - f.length) (lastOf hi (2 ^ k))
  generalize oddFrom lo (2 ^ k) (n - f.length) (lastOf hi (2 ^ k)) = g at i1 i2 i3 ol
  have gm : ∀ v ∈ g, lo ≤ v ∧ v ≤ hi ∧ 0 < v ∧ lowb v = 2 ^ k := fun v hv => by
    obtain ⟨m, rfl, a, b, c, d⟩ := i1 v hv
    exact ⟨d, (le_lastOf hp a).mp c, Int.mul_pos b hp, lowb_mul a b⟩
  have fg : ∀ v ∈ f, ∀ u, 0 < u → lowb u = 2 ^ k → precB v u = true := fun v hv u hu he => by
    obtain ⟨⟨a, b, c⟩, d⟩ := I.sub v hv
    rw [prec_iff c (by omega)]
    rcases d with d | d
    · exact .inl ⟨d, hu⟩
    · by_cases z : v = 0
      · exact .inl ⟨z, hu⟩
      · exact .inr ⟨by omega, hu, .inl (by omega)⟩
  refine ⟨by rw [List.length_append]; omega, List.pairwise_append.mpr ⟨I.pw, ?_, fun a ha b hb => fg a ha b (gm b hb).2.2.1 (gm b hb).2.2.2⟩, fun v hv => ?_, fun hlen u a b c d => ?_, fun hlen u a b c d v hv => ?_⟩
  · refine i2.imp_of_mem fun {a b} ha hb hab => ?_
    have h1 := gm a ha
    have h2 := gm b hb
    rw [prec_iff (by omega) (by omega)]
    exact .inr ⟨h1.2.2.1, h2.2.2.1, .inr ⟨by rw [h1.2.2.2, h2.2.2.2], hab⟩⟩
  · rcases List.mem_append.mp hv with hv | hv
    · obtain ⟨a, b⟩ := I.sub v hv
      exact ⟨a, b.imp_right fun z => by omega⟩
    · have h1 := gm v hv
      exact ⟨⟨h1.1, h1.2.1, by omega⟩, .inr (by rw [h1.2.2.2]; exact Int.le_refl _)⟩
  · rw [List.length_append] at hlen
    by_cases z : u = 0
    · exact List.mem_append_left _ (I.part hl u a b c (.inl z))
    · have d := d.resolve_left z
      rcases lowb_cases (by omega) d with e | e
      · obtain ⟨m, rfl, hm, m0⟩ := of_lowb (by omega) e
        refine List.mem_append_right _ (Classical.byContradiction fun nm => ?_)
        have := (i3 m hm m0 ((le_lastOf hp hm).mpr b) a nm).1
        omega
      · exact List.mem_append_left _ (I.part hl u a b c (.inr e))
  · have nf : u ∉ f := fun z => d (List.mem_append_left _ z)
    have ng : u ∉ g := fun z => d (List.mem_append_right _ z)
    have u0 : u ≠ 0 := fun z => nf (I.part hl u a b c (.inl z))
    have ul : ¬ 2 ^ (k + 1) ≤ lowb u := fun z => nf (I.part hl u a b c (.inr z))
    rcases List.mem_append.mp hv with hv | hv
    · obtain ⟨⟨v1, v2, v3⟩, v4⟩ := I.sub v hv
      rw [prec_iff v3 c]
      rcases v4 with v4 | v4
      · exact .inl ⟨v4, by omega⟩
      · by_cases z : v = 0
        · exact .inl ⟨z, by omega⟩
        · exact .inr ⟨by omega, by omega, .inl (by omega)⟩
    · have h1 := gm v hv
      rw [prec_iff (by omega) c]
      refine .inr ⟨h1.2.2.1, by omega, ?_⟩
      by_cases z : 2 ^ k ≤ lowb u
      · rcases lowb_cases (by omega) z with e | e
        · obtain ⟨m, rfl, hm, m0⟩ := of_lowb (by omega) e
          exact .inr ⟨by rw [h1.2.2.2, e], (i3 m hm m0 ((le_lastOf hp hm).mpr b) a ng).2 v hv⟩
        · exact absurd e ul
      · exact .inl (by omega)
theorem strL_inv {lo hi : Int} {n : Nat} (h0 : 0 ≤ lo) : ∀ (k : Nat) (f : List Int), StInv lo hi n k f → Top (fun u => lo ≤ u ∧ u ≤ hi ∧ 0 ≤ u) n (strL lo hi n k f)
  | 0, f, I => ⟨I.len, I.pw, fun v hv => (I.sub v hv).1, fun u hu nu => by
      by_cases hl : f.length < n
      · refine absurd (I.part hl u hu.1 hu.2.1 hu.2.2 ?_) nu
        by_cases z : u = 0
        · exact .inl z
        · exact .inr (by have := lowb_pos (v := u) (by omega); simpa using this)
      · have := I.len
        have e : f.length = n := by omega
        exact ⟨e, I.full e u hu.1 hu.2.1 hu.2.2 nu⟩⟩
  | k + 1, f, I => by
    unfold strL
    by_cases hl : f.length < n
    · rw [if_pos hl]
      exact strL_inv h0 k _ (stInv_step h0 hl I)
    · rw [if_neg hl]
      have := I.len
      exact ⟨I.len, I.pw, fun v hv => (I.sub v hv).1, fun u hu nu => ⟨by omega, I.full (by omega) u hu.1 hu.2.1 hu.2.2 nu⟩⟩
theorem lt_bits {u : Int} (h : 0 ≤ u) : u < 2 ^ Builtin.Int.intBits u := by
  have := PyProof.Rows.natAbs_lt_pow_bits u
  have e : ((2 ^ Builtin.Int.intBits u : Nat) : Int) = 2 ^ Builtin.Int.intBits u := by simp [Int.natCast_pow]
  omega
theorem strongL_top {lo hi : Int} {n : Nat} (h0 : 0 ≤ lo) (h1 : 0 ≤ hi) : Top (fun u => lo ≤ u ∧ u ≤ hi ∧ 0 ≤ u) n (strongL lo hi n) := by
  unfold strongL
  refine strL_inv h0 _ _ ?_
  have no : ∀ u, 0 < u → u ≤ hi → ¬ (2 : Int) ^ (Builtin.Int.intBits hi + 1) ≤ lowb u := fun u hu hl z => by
    have := lt_bits h1
    have := (lowb_le hu).2
    have e2 : (2 : Int) ^ (Builtin.Int.intBits hi + 1) = 2 ^ Builtin.Int.intBits hi * 2 := Int.pow_succ 2 _
    omega
  by_cases z : (decide (lo = 0) && decide ((n : Int) > 0)) = true
  · rw [if_pos z]
    simp only [Bool.and_eq_true, decide_eq_true_eq] at z
    refine ⟨by simp; omega, by simp, fun v hv => ?_, fun hl u a b c d => ?_, fun hl u a b c d v hv => ?_⟩
    · simp at hv; subst hv; exact ⟨⟨by omega, h1, Int.le_refl _⟩, .inl rfl⟩
    · rcases d with d | d
      · simp [d]
      · by_cases z0 : u = 0
        · simp [z0]
        · exact absurd d (no u (by omega) b)
    · simp at hv d; subst hv
      rw [prec_iff (Int.le_refl _) c]
      exact .inl ⟨rfl, by omega⟩
  · rw [if_neg z]
    simp only [Bool.and_eq_true, decide_eq_true_eq] at z
    refine ⟨Nat.zero_le _, .nil, (fun v hv => nomatch hv), fun hl u a b c d => ?_, (fun hl u a b c d v hv => nomatch hv)⟩
    exfalso
    rcases d with d | d
    · exact z ⟨by omega, by simpa using hl⟩
    · by_cases z0 : u = 0
      · exact z ⟨by omega, by simpa using hl⟩
      · exact no u (by omega) b d
/-! ## the weakest ones go -/
theorem nodup_len : ∀ {l m : List Int}, l.Nodup → (∀ x ∈ l, x ∈ m) → l.length ≤ m.length
  | [], m, _, _ => Nat.zero_le _
  | x :: l, m, hd, hs => by
    have ⟨h1, h2⟩ := List.nodup_cons.mp hd
    have hx : x ∈ m := hs x (List.mem_cons_self ..)
    have := nodup_len (l := l) (m := m.erase x) h2 fun y hy => (List.mem_erase_of_ne (show y ≠ x from fun e => h1 (e ▸ hy))).mpr (hs y (List.mem_cons_of_mem _ hy))
    have el := List.length_erase_of_mem hx
    have : 0 < m.length := List.length_pos_of_mem hx
    rw [List.length_cons]
    omega
theorem lt_nodup {l : List Int} (h : l.Pairwise (· < ·)) : l.Nodup := h.imp fun hab => by omega
/-- the n strongest of A, ascending -/
structure Kd (A : Int → Prop) (n : Nat) (ks : List Int) : Prop where
  len : ks.length = n
  pw : ks.Pairwise (· < ·)
  sub : ∀ v ∈ ks, A v
  out : ∀ u, A u → u ∉ ks → ∀ v ∈ ks, precB v u = true
/-! ## a range arrives as its versions one by one -/
theorem strongL_nil {lo hi : Int} {n : Nat} (h0 : 0 ≤ lo) (h1 : 0 ≤ hi) (h : hi < lo) : strongL lo hi n = [] :=
  List.eq_nil_iff_forall_not_mem.mpr fun v hv => by have := (strongL_top (n := n) h0 h1).sub v hv; omega
theorem rgI_pw : ∀ (lo hi : Int), (rgI lo hi).Pairwise (· < ·) := fun lo hi => by
  unfold rgI
  rw [List.pairwise_map]
  exact List.pairwise_lt_range.imp fun h => by omega
/-- what may wait -/
def Cand (w : List Int) (lo hi : Int) (u : Int) : Prop := u ∈ w ∨ (lo ≤ u ∧ u ≤ hi)
theorem Cand.nn {w : List Int} {lo hi u : Int} {cap : Nat} (k : WOk w lo cap) (h : Cand w lo hi u) : 0 ≤ u := by
  rcases h with h | h
  · exact (k.b u h).1
  · have := k.l0; omega
theorem append_lt {ks : List Int} {x : Int} (h : ks.Pairwise (· < ·)) (hx : ∀ v ∈ ks, v < x) : (ks ++ [x]).Pairwise (· < ·) :=
  List.pairwise_append.mpr ⟨h, by simp, fun a ha b hb => by simp at hb; subst hb; exact hx a ha⟩
theorem Cand.lt {w : List Int} {lo hi u : Int} {cap : Nat} (k : WOk w lo cap) (hl : lo ≤ hi + 1) (h : Cand w lo hi u) : u < hi + 1 := by
  rcases h with h | h
  · have := k.b u h; omega
  · omega
/-! ## sorted(xs, key=f), f an own def: the two lists of the sort as a footprint -/
section
open PySem.W (KeepsBut AllAlike Sortable KeyedOut EachIs SortsAt dataKind keyH_end keyedOut_each dataLe)
variable {X : Cx} {pins : List (Addr × Obj)} {σ : St} {H0 H H1 : Hp} {s0 s : Shared} {A : Around} {a kS : Addr} {f : Value} {b : Bool} {vs : List Value} {e1 : Nat} {kz : List PyData} {P : PySem.Fin → Shared → Prop} {E : Value → Shared → Prop}
theorem each_snoc2 {α β : Type} {R : α → β → Prop} {x : α} {y : β} : ∀ {as : List α} {bs : List β}, EachIs R as bs → R x y → EachIs R (as ++ [x]) (bs ++ [y])
  | _, _, .nil, h => .cons h .nil
  | _, _, .cons h t, h2 => .cons h (each_snoc2 t h2)
theorem keyI_rest (I0 : Inv X pins σ H0 s0) (h0a : s0.heap.objs.size ≤ a) (h0k : s0.heap.objs.size ≤ kS) (hka : kS ≠ a) (I : Inv X pins σ H s) (nk : s.heap.get? kS = some (seqObj "list" #[] 0)) (na : s.heap.get? a = some (seqObj "list" #[] e1)) (hfk : H kS = none) (hfa : H a = none)
    (hlen : kz.length = vs.length) (hZ : vs.length ≤ sizeLine) (hal : AllAlike kz) (hsk : Sortable kz) (hu : ∀ d, d ∈ kz → A.units + d.depth < cLine)
    (turn : ∀ (i : Nat) (v : Value) (k : PyData), vs[i]? = some v → kz[i]? = some k → ∀ pins' s' H', Inv X pins' σ H' s' → Ex H H' → wpAny (model X.prog X.w) A (call f [v]) (fun r s'' => ∃ y H'', Inv X pins' σ H'' s'' ∧ Ex H' H'' ∧ RelV y r ∧ Dp X.K H'' y k) (fun _ _ => False) s')
    (h : ∀ s' H' out c, Inv X pins σ H' s' → Ex H H' → H' a = none → s'.heap.get? a = some (seqObj "list" (List.toArray out) c) → KeyedOut b kz vs out → P (.done (.ret .none)) s') :
    wpAny (model X.prog X.w) A (ksk_rest a f b vs.toArray e1 (.ref kS)) P E s := by
  unfold ksk_rest
  refine wpAny_bind (wpAny_rule ?_)
  first
    | rw [List.forIn_toArray]
    | (rw [← Array.forIn_toList]; simp only [List.toList_toArray])
    | rw [← Array.forIn_toList]
  have fk : ∀ {H' : Hp}, H' kS = none → FpOk X pins H' kS := fun hn => I0.fpOk h0k hn
  have fa : ∀ {H' : Hp}, H' a = none → FpOk X pins H' a := fun hn => I0.fpOk h0a hn
  refine wpAny_bind (ksk_fold (fun i s' => ∃ H' kA e, Inv X pins σ H' s' ∧ Ex H H' ∧ H' kS = none ∧ H' a = none ∧ s'.heap.get? kS = some (seqObj "list" kA e) ∧ s'.heap.get? a = some (seqObj "list" #[] e1) ∧ EachIs (fun v k => ∃ y, RelV y v ∧ Dp X.K H' y k) kA.toList (kz.take i)) vs 0 s
    ⟨H, #[], 0, I, Ex.refl _, hfk, hfa, nk, na, by rw [List.take_zero]; exact .nil⟩ ?step ?done)
  case step =>
    rintro j x s' hx ⟨H', kA, e, I', x', hk', ha', nk', na', hks⟩
    simp only [Nat.zero_add] at hks ⊢
    have hj : j < vs.length := (List.getElem?_eq_some_iff.mp hx).1
    obtain ⟨k, hkj⟩ : ∃ k, kz[j]? = some k := ⟨_, List.getElem?_eq_getElem (by omega)⟩
    have hz : kA.size ≤ vs.length := by
      have h1 := hks.length
      rw [Array.length_toList, List.length_take] at h1
      omega
    have Ip := I'.pinned (fp := [kS, a]) (fun b hb => by
      simp at hb
      rcases hb with rfl | rfl
      · exact fk hk'
      · exact fa ha') (fun b hb => by
      simp at hb
      rcases hb with rfl | rfl
      · exact ⟨_, nk', fun _ => by intro z; cases z⟩
      · exact ⟨_, na', fun _ => by intro z; cases z⟩)
    refine wpAny_bind (wpAny_attempt (wpAny_mono (turn j x k hx hkj _ s' H' Ip x') (fun v s'' he => ?_) fun _ _ hF => hF.elim))
    obtain ⟨y, H'', I2, x2, ry, hd⟩ := he
    try dsimp only
    have pk := I2.pin (kS, seqObj "list" kA e) (List.mem_append_right _ (List.mem_append_right _ (mem_pinsAt (by simp) nk')))
    have pa := I2.pin (a, seqObj "list" #[] e1) (List.mem_append_right _ (List.mem_append_right _ (mem_pinsAt (by simp) na')))
    have nk2 : s''.heap.get? kS = some (seqObj "list" kA e) := pk.1
    have na2 : s''.heap.get? a = some (seqObj "list" #[] e1) := pa.1
    have hk2 : H'' kS = none := pk.2.1
    have ha2 : H'' a = none := pa.2.1
    have I3 := I2.unpinned
    have s1 := Heap.SameBut.update s''.heap kS (Obj.mapSeq (·.push v))
    obtain ⟨c2, hc2⟩ : ∃ c2, (s''.heap.update kS (Obj.mapSeq (·.push v))).get? kS = some (seqObj "list" (kA.push v) c2) := ⟨_, get?_update_seq nk2 (·.push v)⟩
    have ek : kz.take (j + 1) = kz.take j ++ [k] := by rw [List.take_add_one, hkj]; simp
    have ea : (kA.push v).toList = kA.toList ++ [v] := by simp
    refine wpAny_bind (listUpdate_at nk2 rfl ?_ (Nat.le_trans hz hZ) (Nat.le_trans (Nat.le_of_eq (Array.size_push ..)) (Nat.succ_le_succ (Nat.le_trans hz hZ))))
    obtain ⟨f0, f1, f2, f3, f4, f5⟩ := fk hk2
    refine wpAny_pure ⟨rfl, H'', kA.push v, c2, I3.turned (t' := s''.toks) (fun b o hb e => (s1.2 b hb).trans e) f0 f1 f3 f4 f5, x'.trans x2, hk2, ha2, hc2, (s1.2 a hka.symm).trans na2, ?_⟩
    rw [ea, ek]
    exact each_snoc2 (hks.mono fun u d ⟨y, r, q⟩ => ⟨y, r, Dp.ex x2 q⟩) ⟨y, ry, hd⟩
  case done =>
    rintro s' ⟨H', kA, e, I', x', hk', ha', nk', na', hks⟩
    have e3 : kz.take (0 + vs.length) = kz := List.take_of_length_le (by omega)
    rw [e3] at hks
    have hk2 : EachIs (fun v k => ∃ as, Reads s'.heap v k as) kA.toList kz := hks.mono fun v k ⟨y, r, q⟩ => Dp.reads I' k y v q r
    have hsz : kA.size = vs.length := by
      have h1 := hk2.length
      rw [Array.length_toList] at h1
      omega
    try dsimp only
    refine wpAny_bind (listItems_at nk' rfl ?_)
    obtain ⟨G, g1, g2⟩ := restrict s'.heap fun b => decide (b ≠ kS)
    have gk : ∀ b o, b ≠ kS → s'.heap.get? b = some o → G.get? b = some o := fun b o hb e => by
      rw [g1 b (decide_eq_true hb)]
      exact e
    have kp : KeepsBut a G s'.heap := fun b o hb e => by
      by_cases z : b = kS
      · subst z; rw [g2 b (decide_eq_false fun z => z rfl)] at e; cases e
      · rw [g1 b (decide_eq_true z)] at e; exact e
    refine keyH_end (κ := dataKind s'.heap kz) (h₁ := G) kp (g2 kS (decide_eq_false fun z => z rfl)) nk' na' hka (SortsAt.data hk2 hal hsk hu) hsz hZ fun h3 tk3 c k3 n3 => ?_
    refine h _ H' _ c (I'.turnedL (h' := h3) (t' := tk3) (ch := [kS, a]) (fun b o hb e => ?_) fun b hb => ?_) x' ha' n3 ⟨s'.heap, kA.toList, hal, rfl, hk2⟩
    · simp at hb
      exact k3 b o hb.2 (gk b o hb.1 e)
    · simp at hb
      rcases hb with rfl | rfl
      · exact fk hk'
      · exact fa ha'
theorem keyI_tree (I : Inv X pins σ H s) {n : Nat} (h1 : s0.heap.objs.size ≤ a) (I0 : Inv X pins σ H0 s0) (hsz0 : s0.heap.objs.size ≤ s.heap.objs.size) (ho : s.heap.get? a = some (seqObj "list" vs.toArray n)) (hfa : H a = none)
    (hlen : kz.length = vs.length) (hZ : vs.length ≤ sizeLine) (hal : AllAlike kz) (hsk : Sortable kz) (hu : ∀ d, d ∈ kz → A.units + d.depth < cLine)
    (turn : ∀ (i : Nat) (v : Value) (k : PyData), vs[i]? = some v → kz[i]? = some k → ∀ pins' s' H', Inv X pins' σ H' s' → Ex H H' → wpAny (model X.prog X.w) A (call f [v]) (fun r s'' => ∃ y H'', Inv X pins' σ H'' s'' ∧ Ex H' H'' ∧ RelV y r ∧ Dp X.K H'' y k) (fun _ _ => False) s')
    (h : ∀ s' H' out c, Inv X pins σ H' s' → Ex H H' → H' a = none → s'.heap.get? a = some (seqObj "list" (List.toArray out) c) → KeyedOut b kz vs out → P (.done (.ret .none)) s') :
    wpAny (model X.prog X.w) A (ksk_tree a f b) P E s := by
  have ha : a < s.heap.objs.size := Heap.lt_size ho
  obtain ⟨e1, ho1⟩ : ∃ e1, (s.heap.update a (Obj.mapSeq fun _ => (#[] : Array Value))).get? a = some (seqObj "list" #[] e1) := ⟨_, get?_update_seq ho fun _ => #[]⟩
  have hkS : ((s.heap.update a (Obj.mapSeq fun _ => (#[] : Array Value))).push (seqObj "tuple" vs.toArray 0)).objs.size = s.heap.objs.size + 1 := by rw [size_push', Heap.size_update]
  unfold ksk_tree
  refine wpAny_bind (listItems_at ho rfl ?_)
  refine wpAny_bind (listUpdate_at ho rfl ?_ (by rw [List.size_toArray]; exact hZ) (Nat.zero_le _))
  refine wpAny_bind (seqEpoch_at ho1 rfl ?_)
  refine wpAny_bind (wpAny_newTuple ?_ (by show vs.length ≤ _; exact hZ))
  refine wpAny_bind (wpAny_newList ?_ (Nat.zero_le _))
  refine wpAny_holding ?_
  obtain ⟨f0, f1, f2, f3, f4, f5⟩ := (I0.fpOk h1 hfa : FpOk X pins H a)
  have I1 : Inv X pins σ H { s with heap := ((s.heap.update a (Obj.mapSeq fun _ => (#[] : Array Value))).push (seqObj "tuple" vs.toArray 0)).push (seqObj "list" #[] 0) } :=
    I.turned (t' := s.toks) (fun b o hb e => PySem.W.sortingHeap_old hb e) f0 f1 f3 f4 f5
  refine keyI_rest I0 h1 (by rw [hkS]; omega) (by rw [hkS]; exact Nat.ne_of_gt (Nat.lt_succ_of_lt ha)) I1 (Heap.get?_push_size _ rfl) (Heap.get?_push_of_some _ (Heap.get?_push_of_some _ ho1)) ?_ hfa hlen hZ hal hsk hu turn h
  rw [hkS]
  exact I.hok.fresh (Nat.le_succ _)
end
/-! ## the reading -/
section
variable {X : Cx} {j k : Nat} {W : WX} {e : Expr} {es : List Expr} {kws : List Keyword} {σ : St} {H H1 : Hp} {Q : VK} {pos p : Pos} {to : RX} {tk : RA} {n x : Str} {sp : Sp}
end
/-! ## xs[::-1] -/
section
variable {X : Cx} {j : Nat} {W : WX} {e st : Expr} {σ : St} {H H1 : Hp} {Q : VK} {pos p2 : Pos} {to ts : RX}
end
/-! ## x != y of two instances of a class with its own ==, without its own != -/
section
variable {prog : Program} {w : World} {A : Around} {E : Value → Shared → Prop} {s : Shared} {K : PySem.W.Frag} {x y C L f : Addr} {h₀ : Heap} {m : Str → Option Value} {ox oy : Obj} {od od' : Option Obj}
end
section
variable {X : Cx} {j : Nat} {C : Addr} {k : Nat}
/-- what != asks of a class without its own one -/
structure NeC (K : PySem.W.Frag) (C : Addr) : Prop where
  ne : PySem.W.findIn K (.ref C) "__ne__" = some (some (.builtin "object.__ne__"))
  ob : PySem.W.subIn K (.ref C) (.type "object") = some true
end
/-! ## what waits when some versions have arrived, one by one -/
structure Due (cap : Nat) (some kept : List Int) : Prop where
  small : some.length ≤ cap → kept = some
  great : cap < some.length → ∃ ks l d, some = d ++ [l] ∧ kept = ks ++ [l] ∧ Kd (fun u => u ∈ d) (cap - 1) ks
theorem Due.self {cap : Nat} {some : List Int} (h : some.length ≤ cap) : Due cap some some := ⟨fun _ => rfl, fun z => by omega⟩
theorem Due.sub {cap : Nat} {some kept : List Int} (a : Due cap some kept) : ∀ v ∈ kept, v ∈ some := fun v hv => by
  by_cases h : some.length ≤ cap
  · rw [a.small h] at hv; exact hv
  · obtain ⟨ks, l, d, e1, e2, kd⟩ := a.great (by omega)
    rw [e2] at hv
    rw [e1]
    rcases List.mem_append.mp hv with z | z
    · exact List.mem_append_left _ (kd.sub v z)
    · exact List.mem_append_right _ z
theorem Due.len {cap : Nat} {some kept : List Int} (c : 1 ≤ cap) (a : Due cap some kept) : kept.length ≤ cap := by
  by_cases h : some.length ≤ cap
  · rw [a.small h]; exact h
  · obtain ⟨ks, l, d, e1, e2, kd⟩ := a.great (by omega)
    rw [e2, List.length_append, kd.len]
    simp
    omega
theorem Due.pw {cap : Nat} {some kept : List Int} (p : some.Pairwise (· < ·)) (a : Due cap some kept) : kept.Pairwise (· < ·) := by
  by_cases h : some.length ≤ cap
  · rw [a.small h]; exact p
  · obtain ⟨ks, l, d, e1, e2, kd⟩ := a.great (by omega)
    rw [e2]
    rw [e1] at p
    exact append_lt kd.pw fun v hv => (List.pairwise_append.mp p).2.2 v (kd.sub v hv) l (by simp)
section
variable {n m : Nat} {G : Hp → Prop} {elt : RX} {σ : St} {H : Hp} {Q : VK} {xs : List V}
/-- as lc_grow; the new item is told without the list that grows -/
theorem lc_grow2 (P : Nat → V → Hp → Prop) (mono : ∀ i y H1 H2, Ex H1 H2 → P i y H1 → P i y H2) (hn : xs.length < 100000) (hG : ∀ H', Ex H H' → G H')
    (turn : ∀ (i : Nat) x d acc H' (R : VK), xs[i]? = some x → Ex H H' → H' d = none → (∀ y H5, Ex (upd H' d (.lst acc)) H5 → P i y (del H5 d) → R y H5) → elt (put (wipe σ [m]) m x) (upd H' d (.lst acc)) R noW)
    (done : ∀ ys q H', Ex H H' → ys.length = xs.length → (∀ i y, ys[i]? = some y → P i y H') → H' q = none → Q (.ref q) (upd H' q (.lst ys))) : LcB xs.length G (yAt xs) (gName m) tY elt [m] σ H Q :=
  lcB (fun i acc H' => Ex H H' ∧ acc.length = i ∧ ∀ k y, acc[k]? = some y → P k y H') ⟨Ex.refl _, rfl, fun _ _ z => by simp at z⟩ (fun i acc H' hi p => ⟨hG _ p.1, by have := p.2.1; omega⟩) (fun i acc H' d hi p nd => by
    obtain ⟨x1, hl, hp⟩ := p
    intro x hx
    refine ⟨wipe_put, fun _ => turn i x d _ _ _ hx x1 nd fun y H5 x5 h5 => ?_, fun z => nomatch z⟩
    have e5 : H5 d = some (.lst acc) := x5 _ _ upd_same
    have x6 : Ex H' (del H5 d) := fun b o e => by
      have nb : b ≠ d := ne_of_none e nd
      rw [del_ne nb]
      exact x5 _ _ (by rw [upd_ne nb]; exact e)
    refine ⟨del H5 d, del_same, fun b o e => ?_, x1.trans x6, by simp [hl], fun k y' hk => ?_⟩
    · by_cases z : b = d
      · subst z; rw [upd_same] at e; cases e; exact e5
      · rw [upd_ne z, del_ne z] at e; exact e
    by_cases hk2 : k < acc.length
    · exact mono _ _ _ _ x6 (hp k y' (by rwa [List.getElem?_append_left hk2] at hk))
    · rw [List.getElem?_append_right (by omega)] at hk
      have : k - acc.length = 0 := by
        cases e : k - acc.length with
        | zero => rfl
        | succ j => rw [e] at hk; simp at hk
      have e : k = i := by omega
      subst e
      rw [this] at hk
      simp at hk
      subst hk
      exact h5) fun acc H' q p nq => by
    obtain ⟨x1, hl, hp⟩ := p
    exact done acc q H' x1 hl hp nq
end
/-! ## for over a range of great ints -/
section
variable {X : Cx} {j : Nat} {tg a b : Expr} {p pos : Pos} {tr : RA}
end
/-! ## a list times an int; membership of data -/
section
variable {X : Cx} {j : Nat} {a b : Expr} {ta tb : RX} {pos : Pos}
end
/-! ## comprehensions over ints -/
section
variable {n m : Nat} {G : Hp → Prop} {Y : Nat → Hp → VK → Prop} {g : RG} {elt : RX} {vs : List Nat} {σ : St} {H : Hp} {Q : VK} {xs : List V} {lo : Int}
end
/-! ## keys of the laws own order -/
theorem lex3 (a b c a' b' c' : Int) : lexLt PyProof.Rows.itemOrd [.inl 1, .inl a, .inl 1, .inl b, .inl 1, .inl c, .inl 0] [.inl 1, .inl a', .inl 1, .inl b', .inl 1, .inl c', .inl 0] = true ↔ a < a' ∨ (a = a' ∧ (b < b' ∨ (b = b' ∧ c < c'))) := by
  have bl : ∀ x y : Int, PyProof.Rows.itemOrd.blt (.inl x) (.inl y) = decide (x < y) := fun x y => rfl
  have st : ∀ (x y : Int) (r t : List (Int ⊕ List Nat)), lexLt PyProof.Rows.itemOrd (.inl x :: r) (.inl y :: t) = true ↔ x < y ∨ (x = y ∧ lexLt PyProof.Rows.itemOrd r t = true) := fun x y r t => by
    rw [PyProof.Rows.lex_true, bl, bl, decide_eq_true_eq, decide_eq_false_iff_not]
    constructor
    · rintro (h | ⟨h, k⟩)
      · exact .inl h
      · by_cases e : x < y
        · exact .inl e
        · exact .inr ⟨by omega, k⟩
    · rintro (h | ⟨h, k⟩)
      · exact .inl h
      · exact .inr ⟨by omega, k⟩
  rw [st, st, st, st, st, st, st]
  have e0 : lexLt PyProof.Rows.itemOrd ([] : List (Int ⊕ List Nat)) [] = false := rfl
  rw [e0]
  simp
theorem cutV_to (xs : List Int) {n : Int} (h0 : 0 ≤ n) : cutV (xs.map V.int) none (some n) = (xs.take n.toNat).map V.int := by
  unfold cutV
  have e : HT.sIx (xs.map V.int).length (xs.map V.int).length (some n) = min n.toNat (xs.map V.int).length := by
    show (if n < 0 then _ else min n.toNat _) = _
    rw [if_neg (by omega)]
  rw [e, HT.sIx_none, Nat.sub_zero, List.drop_zero, ← List.take_eq_take_min, List.map_take]
theorem cutV_last (xs : List Int) (h : xs ≠ []) : cutV (xs.map V.int) none (some (-1)) = xs.dropLast.map V.int := by
  unfold cutV
  have hl := List.length_pos_iff.mpr h
  have e : HT.sIx (xs.map V.int).length (xs.map V.int).length (some (-1)) = xs.length - 1 := by
    show (if (-1 : Int) < 0 then ((-1) + (((xs.map V.int).length : Nat) : Int)).toNat else min (-1 : Int).toNat (xs.map V.int).length) = _
    rw [if_pos (by decide), List.length_map]
    omega
  rw [e, HT.sIx_none, Nat.sub_zero, List.drop_zero, List.dropLast_eq_take, List.map_take]
/-! ## what the laws' own search for the strongest finds -/
theorem Top.nd {S : Int → Prop} {n : Nat} {f : List Int} (t : Top S n f) (nn : ∀ u, S u → 0 ≤ u) : f.Nodup :=
  t.pw.imp_of_mem fun {a b} ha hb h e => by
    subst e
    rw [prec_irr (nn a (t.sub a ha))] at h
    cases h
/-- all of S is in d, or preceded by n of d -/
theorem Top.great {S : Int → Prop} {d : List Int} {n : Nat} {f : List Int} (t : Top (fun u => u ∈ d) n f) (nn : ∀ u, S u → 0 ≤ u) (sub : ∀ v ∈ d, S v) (nd : d.Nodup) (cov : ∀ u, S u → u ∈ d ∨ n ≤ (d.filter fun v => precB v u).length) : Top S n f := by
  refine ⟨t.len, t.pw, fun v hv => sub v (t.sub v hv), fun u hu nu => ?_⟩
  by_cases ud : u ∈ d
  · exact t.out u ud nu
  have hn := (cov u hu).resolve_left ud
  have fd : (d.filter fun v => precB v u).Nodup := nd.sublist List.filter_sublist
  have fs : ∀ x ∈ d.filter (fun v => precB v u), x ∈ d ∧ precB x u = true := fun x hx => by
    have := List.mem_filter.mp hx
    exact ⟨this.1, this.2⟩
  have full : f.length = n := by
    by_cases h : ∃ x ∈ d, x ∉ f
    · obtain ⟨x, h1, h2⟩ := h
      exact (t.out x h1 h2).1
    · have all : ∀ x ∈ d, x ∈ f := fun x hx => Classical.byContradiction fun z => h ⟨x, hx, z⟩
      have := nodup_len fd fun x hx => all x (fs x hx).1
      have := t.len
      omega
  refine ⟨full, fun v hv => Classical.byContradiction fun hnv => ?_⟩
  have v0 := nn v (sub v (t.sub v hv))
  have u0 := nn u hu
  have ne : v ≠ u := fun e => ud (e ▸ t.sub v hv)
  have uv : precB u v = true := (prec_tri v0 u0 ne).resolve_left hnv
  have inf : ∀ x ∈ v :: d.filter (fun v => precB v u), x ∈ f := fun x hx => by
    rcases List.mem_cons.mp hx with rfl | hx
    · exact hv
    · obtain ⟨xd, xu⟩ := fs x hx
      refine Classical.byContradiction fun nx => ?_
      have x0 := nn x (sub x xd)
      exact prec_asym x0 v0 (precB_tr x0 u0 v0 xu uv) ((t.out x xd nx).2 v hv)
  have := nodup_len (List.nodup_cons.mpr ⟨fun z => hnv (fs v z).2, fd⟩) inf
  rw [List.length_cons] at this
  omega
structure SgInv (lo hi : Int) (n k : Nat) (f : List Int) : Prop where
  nd : f.Nodup
  sub : ∀ v ∈ f, (lo ≤ v ∧ v ≤ hi ∧ 0 ≤ v) ∧ (v = 0 ∨ 2 ^ k ≤ lowb v)
  cov : ∀ u, lo ≤ u → u ≤ hi → 0 ≤ u → (u = 0 ∨ 2 ^ k ≤ lowb u) → u ∈ f ∨ n ≤ (f.filter fun v => precB v u).length
/-! ## queues of a law: apart from each other, their states -/
structure Q1 (C : Addr) (H0 H : Hp) (x kl cl : Addr) (q : Qst) : Prop where
  at_ : QAt C H x kl cl q
  xx : Ex H0 H
  n1 : H0 x = none
  c1 : H0 cl = none
  e1 : kl ≠ cl
structure Ap (x kl cl x' kl' cl' : Addr) : Prop where
  ne : x ≠ x'
  e3 : kl ≠ cl'
  e4 : kl' ≠ cl
  e5 : cl ≠ cl'
theorem QAt.cl_some {C : Addr} {H : Hp} {a kl cl : Addr} {q : Qst} (A : QAt C H a kl cl q) : ∃ o, H cl = some o := by
  obtain ⟨_, _, cs, l, _⟩ := A
  exact ⟨_, l⟩
theorem Q1.ex0 {C : Addr} {H0 H H' : Hp} {x kl cl : Addr} {q : Qst} (a : Q1 C H0 H x kl cl q) (f : Fr [x, cl] H H') : Ex H0 H' := fun b o e => f b o (by
  simp
  exact ⟨ne_of_none e a.n1, ne_of_none e a.c1⟩) (a.xx b o e)
theorem Q1.op {C : Addr} {H0 H H' : Hp} {x kl kl2 cl : Addr} {q q2 : Qst} (a : Q1 C H0 H x kl cl q) (f : Fr [x, cl] H H') (hk : H kl2 = none) (A : QAt C H' x kl2 cl q2) : Q1 C H0 H' x kl2 cl q2 := by
  obtain ⟨o, s⟩ := a.at_.cl_some
  exact ⟨A, a.ex0 f, a.n1, a.c1, (ne_of_none s hk).symm⟩
theorem Q1.ex {C : Addr} {H0 H H' : Hp} {x kl cl : Addr} {q : Qst} (a : Q1 C H0 H x kl cl q) (e : Ex H H') : Q1 C H0 H' x kl cl q := ⟨a.at_.ex e, a.xx.trans e, a.n1, a.c1, a.e1⟩
theorem Q1.other {C : Addr} {H0 H H' : Hp} {x kl cl x' kl' cl' : Addr} {q r : Qst} (a : Q1 C H0 H x kl cl q) (b : Q1 C H0 H x' kl' cl' r) (p : Ap x kl cl x' kl' cl') (f : Fr [x, cl] H H') : Q1 C H0 H' x' kl' cl' r := by
  refine ⟨?_, a.ex0 f, b.n1, b.c1, b.e1⟩
  obtain ⟨⟨dx, i1⟩, k1, cs, l1, _⟩ := a.at_
  obtain ⟨⟨dy, i2⟩, k2, ds, l2, d2⟩ := id b.at_
  refine b.at_.fr f ?_ ?_ ?_ fun z hz xs e => ?_
  · simp
    exact ⟨p.ne.symm, ne_kind i2 l1 (fun e => by cases e)⟩
  · simp
    exact ⟨ne_kind k2 i1 (fun e => by cases e), p.e4⟩
  · simp
    exact ⟨ne_kind l2 i1 (fun e => by cases e), p.e5.symm⟩
  · simp at hz
    rcases hz with rfl | rfl
    · rw [i1] at e; cases e
    · rw [l1] at e; cases e
theorem Ap.op {C : Addr} {H H0 : Hp} {x kl kl2 cl x' kl' cl' : Addr} {r : Qst} (p : Ap x kl cl x' kl' cl') (b : Q1 C H0 H x' kl' cl' r) (hk : H kl2 = none) : Ap x kl2 cl x' kl' cl' := by
  obtain ⟨o, s⟩ := b.at_.cl_some
  exact ⟨p.ne, (ne_of_none s hk).symm, p.e4, p.e5⟩
/-- a queue of the law: its state, what must wait -/
structure Lq (cap : Nat) (m bd : Int) (so : List Int) (n : Nat) (q : Qst) : Prop where
  ok : QOk q
  size : q.size = cap
  mark : q.mark = m
  bound : q.bound ≤ bd
  due : Due cap so q.kept
  calls : q.calls.length ≤ n
/-- the versions that may wait -/
structure So (m bd : Int) (so : List Int) : Prop where
  pw : so.Pairwise (· < ·)
  b : ∀ u ∈ so, m < u ∧ u ≤ bd
theorem Fr.back {C : Addr} {H H1 : Hp} {x kl cl b : Addr} {q : Qst} (f : Fr [x, cl] H H1) (A : QAt C H1 x kl cl q) (n : H1 b = none) : H b = none := by
  obtain ⟨dx, i⟩ := A.ins
  obtain ⟨o1, i1⟩ := A.cl_some
  cases e : H b with
  | none => rfl
  | some o =>
    have := f b o (by
      simp
      exact ⟨(ne_of_none i n).symm, (ne_of_none i1 n).symm⟩) e
    rw [n] at this
    cases this
structure Same (a b : Qst) : Prop where
  size : a.size = b.size
  first : a.first = b.first
  mark : a.mark = b.mark
  latest : a.latest = b.latest
  kept : a.kept = b.kept
  most : a.most = b.most
theorem Same.eqv {a b : Qst} (s : Same a b) : a.eqv b = true := by
  unfold Qst.eqv
  exact decide_eq_true ⟨s.size, s.first, s.mark, s.latest, s.kept⟩
theorem QOk.latest {q : Qst} (ok : QOk q) : ∀ i, q.latest = some i → -1 ≤ i ∧ Big i := fun i e => by
  have b0 := ok.b0
  have b1 := ok.b1
  have f0 := ok.f0
  have eb : q.bound = i := by unfold Qst.bound; rw [e]
  rw [eb] at b0 b1
  exact ⟨by omega, b1⟩
/-! ## a queue as a law follows it, whatever its mark -/
structure Lx (C : Addr) (H0 H : Hp) (x kl cl sa : Addr) (q : Qst) (cap : Nat) (bg : Int) (n : Nat) : Prop where
  a : Q1 C H0 H x kl cl q
  sa_ : H sa = some (.lst (q.kept.map V.int))
  ne : sa ≠ cl
  ok : QOk q
  size : q.size = cap
  first : q.first = bg
  pw : q.kept.Pairwise (· < ·)
  km : ∀ v ∈ q.kept, q.mark < v
  m0 : 0 ≤ q.most
  m1 : q.most ≤ q.bound + 1
  calls : q.calls.length ≤ n
section
variable {C : Addr} {H0 H H' : Hp} {x kl kl2 cl sa sb : Addr} {q : Qst} {cap n n2 : Nat} {bg : Int}
theorem Lx.ex (l : Lx C H0 H x kl cl sa q cap bg n) (e : Ex H H') : Lx C H0 H' x kl cl sa q cap bg n := ⟨l.a.ex e, e _ _ l.sa_, l.ne, l.ok, l.size, l.first, l.pw, l.km, l.m0, l.m1, l.calls⟩
theorem Lx.most (l : Lx C H0 H x kl cl sa q cap bg n) : 0 ≤ q.most ∧ q.most < 2000000000000000000000000000000000000000000000000000000000000000 := by
  have b1 := l.ok.b1
  have := l.m0
  have := l.m1
  unfold Big at b1
  omega
end
/-! ## the drops, as a law finds them -/
def lawDue (cap : Nat) (v : Int) : List Arr → Option Drop
  | [] => none
  | r :: rs => if (holdsA r v && !decide (v ∈ aftA r.w r.low r.high cap)) = true then some (dropA r cap v) else lawDue cap v rs
def arrs (size : Nat) : Int → List Int → List Call → List Arr
  | _, _, [] => []
  | _, w, (x, none) :: r => arrs size x (w.filter fun o => decide (o > x)) r
  | m, w, (l, some h) :: r => (if mx l (m + 1) ≤ h then [⟨m, w, mx l (m + 1), h⟩] else []) ++ arrs size m (aftA w (mx l (m + 1)) h size) r
def endS (size : Nat) : Int → List Int → List Call → Int × List Int
  | m, w, [] => (m, w)
  | _, w, (x, none) :: r => endS size x (w.filter fun o => decide (o > x)) r
  | m, w, (l, some h) :: r => endS size m (aftA w (mx l (m + 1)) h size) r
/-- the state is what its calls make of it -/
structure Sim (q : Qst) : Prop where
  e : endS q.size (q.first - 1) [] q.calls = (q.mark, q.kept)
def Qst.arrs (q : Qst) : List Arr := L2.G.arrs q.size (q.first - 1) [] q.calls
theorem Sim.new (cap : Nat) (s : Int) : Sim (Qst.new cap s) := ⟨rfl⟩
/-! ## is, is not of bools -/
section
variable {X : Cx}
end
/-! ## f-strings of data -/
/-- str(x) of data -/
def toldS : PyData → Str
  | .str x => x
  | d => d.shown
section
variable {X : Cx} {j : Nat} {e : Expr} {t : RX} {pos : Pos} {W : WX} {k : Nat}
end
/-! ## texts that can be laid -/
/-! ## repr of a queue -/
def numT (q : Qst) : Str := ((((((((Str.empty ++ "capacity=") ++ Str.ofString (toString (q.size : Int))) ++ ", start=") ++ Str.ofString (toString q.first)) ++ ", passed=") ++ Str.ofString (toString q.mark)) ++ ", newest=") ++ toldS (optD q.latest))
def Qst.text (q : Qst) : Str := (((((Str.empty ++ "Queue(") ++ numT q) ++ ", waiting=") ++ PyData.shown (.list (q.kept.map PyData.int))) ++ ")")
/-! ## a queue by itself -/
structure Ly (C : Addr) (H0 H : Hp) (x kl cl : Addr) (q : Qst) (B : Int) (n : Nat) : Prop where
  a : Q1 C H0 H x kl cl q
  ok : QOk q
  pw : q.kept.Pairwise (· < ·)
  km : ∀ v ∈ q.kept, q.mark < v
  m0 : 0 ≤ q.most
  m1 : q.most ≤ q.bound + 1
  b1 : q.bound ≤ B
  b2 : q.mark ≤ B
  calls : q.calls.length ≤ n
  s : Sim q
section
variable {C : Addr} {H0 H H' : Hp} {x kl kl2 cl : Addr} {q : Qst} {n n2 : Nat} {B B2 : Int}
theorem Ly.ex (l : Ly C H0 H x kl cl q B n) (e : Ex H H') : Ly C H0 H' x kl cl q B n := ⟨l.a.ex e, l.ok, l.pw, l.km, l.m0, l.m1, l.b1, l.b2, l.calls, l.s⟩
theorem Ly.most (l : Ly C H0 H x kl cl q B n) : 0 ≤ q.most ∧ q.most < 2000000000000000000000000000000000000000000000000000000000000000 := by
  have b1 := l.ok.b1
  have := l.m0
  have := l.m1
  unfold Big at b1
  omega
end
/-! ## one by one -/
/-! ## a comprehension over a range that makes things -/
section
variable {n m : Nat} {elt : RX} {σ : St} {H : Hp} {Q : VK}
end
/-! ## what drops tell -/
/-! ## dicts with keys ints and texts -/
section
variable {X : Cx} {j : Nat} {W : WX} {e f o i : Expr} {σ : St} {H H1 : Hp} {Q : VK} {D : Ends} {pos p pos' apos cpos tpos : Pos} {t to ti tf : RX} {r : RO} {rc : RC} {tr : RA}
inductive SPs (X : Cx) (j : Nat) : List (RX × RX) → List (Option Expr) → List Expr → Prop where
  | nil : SPs X j [] [] []
  | cons {tk tv : RX} {k v : Expr} {trs : List (RX × RX)} {ks : List (Option Expr)} {vs : List Expr} (hk : SX X j tk k) (hv : SX X j tv v) (r : SPs X j trs ks vs) : SPs X j ((tk, tv) :: trs) (some k :: ks) (v :: vs)
end
/-! ## sorted(set(t)), t a tuple of ints; xs.count(k), bools -/
section
variable {X : Cx} {j : Nat} {e : Expr} {es : List Expr} {σ : St} {H H1 : Hp} {Q : VK} {pos p p2 pos2 : Pos} {tr : RA}
end
/-! ## the history of a queue: what waits, was dropped, was passed -/
structure ArOk (cap : Nat) (r : Arr) : Prop where
  w : WOk r.w r.low cap
  pw : r.w.Pairwise (· < ·)
  hb : Big r.high
  lh : r.low ≤ r.high
  m0 : -1 ≤ r.mark
  m1 : Big r.mark
/-- the certificate of a drop -/
structure Cert (cap : Nat) (v : Int) (d : Drop) : Prop where
  a : d.1 < v
  b : v < d.2.1
  len : d.2.2.length = cap - 1
  pw : d.2.2.Pairwise (· < ·)
  lo : ∀ o ∈ d.2.2, d.1 < o
  hi : ∀ o ∈ d.2.2, o < d.2.1
  pr : ∀ o ∈ d.2.2, precB o v = true
/-! ## what became of a version -/
/-- the mark at which it arrived -/
def markAt (v : Int) : Int → List Call → Option Int
  | _, [] => none
  | _, (x, none) :: r => markAt v x r
  | m, (l, some h) :: r => if l ≤ v ∧ v ≤ h then some m else markAt v m r
def Qst.at_ (q : Qst) (v : Int) : Option Int := markAt v (q.first - 1) q.calls
inductive Became (q : Qst) (v : Int) : Prop where
  | not_ (h : q.at_ v = none) (k : v ∉ q.kept) (d : lawDue q.size v q.arrs = none)
  | low (m : Int) (h : q.at_ v = some m) (le : v ≤ m) (k : v ∉ q.kept) (d : lawDue q.size v q.arrs = none)
  | waits (m : Int) (h : q.at_ v = some m) (lt : m < v) (k : v ∈ q.kept) (d : lawDue q.size v q.arrs = none) (p : q.mark < v)
  | drop (m : Int) (h : q.at_ v = some m) (lt : m < v) (k : v ∉ q.kept) (e : Drop) (d : lawDue q.size v q.arrs = some e)
  | passed (m : Int) (h : q.at_ v = some m) (lt : m < v) (k : v ∉ q.kept) (d : lawDue q.size v q.arrs = none) (p : v ≤ q.mark)
structure Hist (q : Qst) : Prop where
  ok : QOk q
  s : Sim q
  pw : q.kept.Pairwise (· < ·)
  km : ∀ v ∈ q.kept, q.mark < v
  st : ∀ v, Became q v
  ka : ∀ v ∈ q.kept, (q.at_ v).isSome = true
  ar : ∀ r ∈ q.arrs, ArOk q.size r ∧ (∀ o ∈ r.w, r.mark < o ∧ (q.at_ o).isSome = true) ∧ (∀ o, r.low ≤ o → o ≤ r.high → (q.at_ o).isSome = true) ∧ r.high ≤ q.bound ∧ r.mark < r.low
theorem Hist.new {cap : Nat} {s : Int} (c2 : 2 ≤ cap) (c9 : cap ≤ 9) (s0 : 0 ≤ s) (s1 : Big s) : Hist (Qst.new cap s) := ⟨QOk.new c2 c9 s0 s1, Sim.new _ _, .nil, (fun v hv => nomatch hv), fun v => .not_ rfl (fun h => nomatch h) rfl, (fun v hv => nomatch hv), fun r hr => nomatch hr⟩
/-! ## min(xs, key=f), max(xs, key=f), f an own def -/
section
open PySem.W (dataLt alike rcLt_alike rcGt_alike)
variable {X : Cx} {pins : List (Addr × Obj)} {σ : St} {H0 H H1 : Hp} {s0 s : Shared} {A : Around} {q : Addr} {xs : List V} {l S I : Addr} {k : V → PyData} {R : Result → Shared → Prop}
end
/-! ## the reading -/
section
open PySem.W (dataLt alike)
variable {X : Cx} {j k : Nat} {W : WX} {e : Expr} {es : List Expr} {kws : List Keyword} {σ : St} {H H1 : Hp} {Q : VK} {pos p : Pos} {to : RX} {tk : RA} {n x : Str} {sp : Sp}
end

/-! ## dict comprehensions, sorted(d), list(d.items()) -/
section
variable {X : Cx} {j : Nat} {W : WX} {e : Expr} {σ : St} {H H1 : Hp} {Q : VK} {pos p apos cpos : Pos} {t to : RX} {tc : RT} {g : RG} {tg iter : Expr}
/-- {k: v for tg in it if tc} -/
def DcP (n : Nat) (G : Hp → Prop) (Y : Nat → Hp → VK → Prop) (g : RG) (tc : RT) (tk elt : RX) (vs : List Nat) (σ : St) (H1 : Hp) (Q : VK) : Prop := ∃ Pv : Nat → List (Key × V) → Hp → Prop, Pv 0 [] H1 ∧ (∀ i acc H', i ≤ n → Pv i acc H' → G H' ∧ acc.length < 100000) ∧
  (∀ i acc H' d, i < n → Pv i acc H' → H' d = none → Y i (upd H' d (.dK acc)) fun x H2 => g x (wipe σ vs) H2 (fun σ3 H3 => wipe σ3 vs = wipe σ vs ∧ tc σ3 H3 (fun k H4 =>
    (k = true → tk σ3 H4 (fun z H5 => elt σ3 H5 (fun y H7 => ∃ kx H6, z = kV kx ∧ H6 d = none ∧ Ex (upd H6 d (.dK acc)) H7 ∧ Pv (i + 1) (putK acc kx y) H6) noW) noW) ∧ (k = false → ∃ H6, H6 d = none ∧ Ex (upd H6 d (.dK acc)) H4 ∧ Pv (i + 1) acc H6)) noW) noW) ∧
  ∀ acc H' q, Pv n acc H' → H' q = none → Q (.ref q) (upd H' q (.dK acc))
@[irreducible] def DcB (n : Nat) (G : Hp → Prop) (Y : Nat → Hp → VK → Prop) (g : RG) (tc : RT) (tk elt : RX) (vs : List Nat) (σ : St) (H1 : Hp) (Q : VK) : Prop := DcP n G Y g tc tk elt vs σ H1 Q
theorem DcB.out {n : Nat} {G : Hp → Prop} {Y : Nat → Hp → VK → Prop} {tk elt : RX} {vs : List Nat} (h : DcB n G Y g tc tk elt vs σ H1 Q) : DcP n G Y g tc tk elt vs σ H1 Q := by
  unfold DcB at h
  exact h
end
/-! ## memories: the last two multiples of each power of two -/
abbrev Big2 (v : Int) : Prop := 0 ≤ v ∧ v < 2 ^ 210
/-! ## a memory in the heap -/
structure Mst where
  rows : List (Int × Option Int)
  last : Option Int
abbrev Mst.vs (m : Mst) : List Int := m.rows.map (·.1)
def rowK (r : Int × Option Int) : Key × V := (.inl r.1, optV r.2)
def Mst.new : Mst := ⟨[], none⟩
structure MAt (C : Addr) (H : Hp) (a d : Addr) (m : Mst) : Prop where
  ins : ∃ dx, H a = some (.ins C dx [("known", .ref d), ("last", optV m.last)])
  kn : H d = some (.dK (m.rows.map rowK))
/-- a value that repr can tell -/
def VOk (x : Option Int) : Prop := ∀ i, x = some i → i.natAbs < 10 ^ 100
/-- what always holds of a memory -/
structure MOk (m : Mst) (n : Nat) : Prop where
  pw : m.vs.Pairwise (· < ·)
  big : ∀ u ∈ m.vs, Big2 u
  last : ∀ l, m.last = some l → Big2 l ∧ ∀ u ∈ m.vs, u ≤ l
  none_ : m.last = none → m.rows = []
  len : m.rows.length ≤ n
  vals : ∀ r ∈ m.rows, VOk r.2
theorem MOk.new : MOk .new 0 := ⟨.nil, (fun u h => nomatch h), (fun l e => nomatch e), (fun _ => rfl), Nat.le_refl _, fun _ h => nomatch h⟩
theorem MAt.fr {C : Addr} {H H' : Hp} {L : List Addr} {a d : Addr} {m : Mst} (A : MAt C H a d m) (f : Fr L H H') (n1 : a ∉ L) (n2 : d ∉ L) : MAt C H' a d m := by
  obtain ⟨⟨dx, i⟩, k⟩ := A
  exact ⟨⟨dx, f _ _ n1 i⟩, f _ _ n2 k⟩
theorem MAt.ex {C : Addr} {H H' : Hp} {a d : Addr} {m : Mst} (A : MAt C H a d m) (x : Ex H H') : MAt C H' a d m := A.fr (L := []) (.of_ex x) (by simp) (by simp)
section
variable {H : Hp} {Q : VK} {σ : St} {m : Nat} {G : Hp → Prop} {tk elt : RX}
end
/-- the rows told -/
def RowsAt (H : Hp) (ts : List Addr) (rs : List (Int × Option Int)) : Prop := Paired (fun (t : Addr) (r : Int × Option Int) => H t = some (.tup [.int r.1, optV r.2])) ts rs
def rowsD (rs : List (Int × Option Int)) : List PyData := rs.map fun r => .tuple [.int r.1, optD r.2]
theorem RowsAt.ex {H H' : Hp} {ts : List Addr} {rs : List (Int × Option Int)} (h : RowsAt H ts rs) (x : Ex H H') : RowsAt H' ts rs := by
  unfold RowsAt at *
  induction h with
  | nil => exact .nil
  | cons h _ ih => exact .cons (x _ _ h) ih
theorem RowsAt.dp {K : PySem.W.Frag} {H : Hp} {ts : List Addr} {rs : List (Int × Option Int)} (h : RowsAt H ts rs) : DpAll K H (ts.map V.ref) (rowsD rs) := by
  unfold RowsAt at h
  induction h with
  | nil => exact .nil
  | cons h _ ih => exact .cons (.tup (.of h) (.cons (.int _) (.cons (dp_opt _) .nil))) ih
theorem RowsAt.len {H : Hp} {ts : List Addr} {rs : List (Int × Option Int)} (h : RowsAt H ts rs) : ts.length = rs.length := by
  unfold RowsAt at h
  induction h with
  | nil => rfl
  | cons h _ ih => simp [ih]
theorem VOk.fits {x : Option Int} (h : VOk x) : fits (optD x) := by
  cases x with
  | none => simp [optD, G.fits]
  | some i =>
    have := h i rfl
    simp only [optD, G.fits]
    omega
def Mst.text (m : Mst) : Str := ((Str.empty ++ "Memory(versions=") ++ PyData.shown (.list (m.vs.map PyData.int))) ++ ")"
section
variable {H : Hp} {Q : VK} {σ : St} {m : Nat} {G : Hp → Prop} {elt : RX}
end
/-- rows kept in a list of tuples -/
abbrev RowP := Addr × (Int × Option Int)
def rowV (q : RowP) : V := .ref q.1
def PsAt (H : Hp) (ps : List RowP) : Prop := ∀ q ∈ ps, H q.1 = some (.tup [.int q.2.1, optV q.2.2])
theorem PsAt.ex {H H' : Hp} {ps : List RowP} (h : PsAt H ps) (x : Ex H H') : PsAt H' ps := fun q hq => x _ _ (h q hq)
theorem PsAt.fr {H H' : Hp} {L : List Addr} {ps : List RowP} (h : PsAt H ps) (f : Fr L H H') (hL : ∀ b ∈ L, ∀ xs, H b ≠ some (.tup xs)) : PsAt H' ps := fun q hq => f _ _ (fun z => hL _ z _ (h q hq)) (h q hq)
theorem PsAt.dp {K : PySem.W.Frag} {H : Hp} : ∀ {ps : List RowP}, PsAt H ps → DpAll K H (ps.map rowV) (rowsD (ps.map (·.2)))
  | [], _ => .nil
  | q :: ps, h => .cons (.tup (.of (h q (List.mem_cons_self ..))) (.cons (.int _) (.cons (dp_opt _) .nil))) (PsAt.dp (ps := ps) fun r hr => h r (List.mem_cons_of_mem _ hr))
theorem data_same {d : PyData} (h : SeqAt.shaped d = true) : PyData.eqv d d = true := SeqAt.eqv_refl d (SeqAt.canLay_of_shaped h)
/-! ## a comprehension in a comprehension; list(xs) of a list or a tuple -/
section
variable {X : Cx}
end
/-! ## memories in groups -/
abbrev MemP := Addr × Addr × Mst
def MsAt (C : Addr) (H : Hp) (ms : List MemP) : Prop := ∀ q ∈ ms, MAt C H q.1 q.2.1 q.2.2 ∧ MOk q.2.2 62
theorem MsAt.ex {C : Addr} {H H' : Hp} {ms : List MemP} (h : MsAt C H ms) (x : Ex H H') : MsAt C H' ms := fun q hq => ⟨(h q hq).1.ex x, (h q hq).2⟩
theorem MsAt.sub {C : Addr} {H : Hp} {ms ls : List MemP} (h : MsAt C H ms) (s : ∀ q ∈ ls, q ∈ ms) : MsAt C H ls := fun q hq => h q (s q hq)
/-! ## the text of rows can be laid -/
/-! ## how many are kept; the last two of a sorted list; the common one -/
/-! ## sets of ints: comprehensions, not in, len(set(xs)); things that are lists or tuples -/
section
variable {X : Cx}
/-- a set of ints, however its table came about -/
def SetQ (a : Addr) (S : Int → Bool) : HO := .ext fun h => ∃ w c, SetR w h a S c
end

section
variable {X : Cx} {j : Nat} {W : WX} {e : Expr} {σ : St} {H H1 : Hp} {Q : VK} {pos p : Pos} {t to : RX} {tc : RT} {g : RG} {tg iter : Expr} {w : World}
/-- the set of the ints in the list -/
@[irreducible] def SetL (a : Addr) (ns : List Int) : HO := SetQ a (fun j => decide (j ∈ ns))
/-- {v for tg in it if tc}, ints: the values in their order -/
def SiP (n : Nat) (G : Hp → Prop) (Y : Nat → Hp → VK → Prop) (g : RG) (tc : RT) (elt : RX) (vs : List Nat) (σ : St) (H1 : Hp) (Q : VK) : Prop := ∃ Pv : Nat → List Int → Hp → Prop, Pv 0 [] H1 ∧ (∀ i acc H', i ≤ n → Pv i acc H' → G H' ∧ acc.length < 1000) ∧
  (∀ i acc (o : HO) H' d, i < n → Pv i acc H' → H' d = none → Y i (upd H' d o) fun x H2 => g x (wipe σ vs) H2 (fun σ3 H3 => wipe σ3 vs = wipe σ vs ∧ tc σ3 H3 (fun k H4 =>
    (k = true → elt σ3 H4 (fun y H7 => ∃ kx H6, y = .int kx ∧ H6 d = none ∧ Ex (upd H6 d o) H7 ∧ Pv (i + 1) (acc ++ [kx]) H6) noW) ∧ (k = false → ∃ H6, H6 d = none ∧ Ex (upd H6 d o) H4 ∧ Pv (i + 1) acc H6)) noW) noW) ∧
  ∀ acc H' q, Pv n acc H' → H' q = none → Q (.ref q) (upd H' q (SetL q acc))
@[irreducible] def SiB (n : Nat) (G : Hp → Prop) (Y : Nat → Hp → VK → Prop) (g : RG) (tc : RT) (elt : RX) (vs : List Nat) (σ : St) (H1 : Hp) (Q : VK) : Prop := SiP n G Y g tc elt vs σ H1 Q
theorem SiB.out {n : Nat} {G : Hp → Prop} {Y : Nat → Hp → VK → Prop} {elt : RX} {vs : List Nat} (h : SiB n G Y g tc elt vs σ H1 Q) : SiP n G Y g tc elt vs σ H1 Q := by
  unfold SiB at h
  exact h
end
/-! ## walks over dicts (locked meanwhile), o.f += e, dict(pairs), d == {} -/
section
variable {X : Cx} {j : Nat} {W : WX} {e o : Expr} {st : Stmt} {σ : St} {H H1 : Hp} {Q : VK} {pos p apos cpos tpos : Pos} {t to te : RX} {zs : RS} {r : RO} {tg iter : Expr} {f : Str} {C : Addr} {elts : List Expr} {kk : Nat}
end
/-! ## stores: segments, changes -/
structure Seg where
  low : Int
  high : Int
  first : Int
  rise : Int
  added : Int
def Seg.num (g : Seg) (v : Int) : Int := g.first + g.rise * ((if g.high < v then g.high else v) - g.low)
structure Chg where
  word : Str
  cell : Str
  amount : Int
  many : Int
def sAsg : Str := "assign"
def sAdd : Str := "add"
def sRep : Str := "repeat"
structure Chg.Ok (c : Chg) : Prop where
  w : c.word = sAsg ∨ c.word = sAdd ∨ c.word = sRep
  m1 : 1 ≤ c.many
  one : c.word ≠ sRep → c.many = 1
/-! ## tables of functions: D[word](..), D a dict of the module from texts to defs; word in D -/
structure TabF (P : Program) (w : World) (K : PySem.W.Frag) (mg : Str → Option Value) (base : Heap) (D : Addr) (k : Nat) (tab : List (Str × Sp)) : Prop where
  at_ : ∀ q ∈ tab, ∃ (f : Addr) (fd : FuncData) (ps : List Str), FnG P w K mg base k f fd ps q.2 ∧ PySem.W.keepIn K (.ref f) = true ∧ Binds K fd ps [] ∧ KDct K w D q.1 (.ref f)
section
variable {X : Cx} {j k : Nat} {W : WX} {e i : Expr} {es : List Expr} {σ : St} {H H1 : Hp} {Q : VK} {pos p p2 : Pos} {ti : RX} {tr : RA} {x : Str} {D : Addr} {tab : List (Str × Sp)}
end
section
variable {P : Program} {w : World} {K : PySem.W.Frag} {mg : Str → Option Value} {base : Heap} {D f : Addr} {k k' : Nat} {tab : List (Str × Sp)} {n z : Str} {ps : List Str} {sp : Sp}
theorem TabF.nil : TabF P w K mg base D k [] := ⟨fun _ h => nomatch h⟩
theorem FnG.up {fd : FuncData} (F : FnG P w K mg base k' f fd ps sp) (h : k' ≤ k) : FnG P w K mg base k f fd ps sp := ⟨F.len, fun A outer s H1 args us vs H Q E hr => F.run A outer s H1 args us vs H Q E (hr.mono h)⟩
theorem TabF.cons (C : Cal P w K mg base n k' ps [] sp) (hg : mg n = some (.ref f)) (kd : KDct K w D z (.ref f)) (T : TabF P w K mg base D k tab) (hk : k' ≤ k := by decide) : TabF P w K mg base D k ((z, sp) :: tab) := ⟨fun q hq => by
  rcases List.mem_cons.mp hq with e | h
  · subst e
    obtain ⟨f2, fd, ds, F, hm, hkp, hb, hd, _⟩ := C.ex
    rw [hg] at hm
    cases hm
    cases hd
    exact ⟨f, fd, ps, F.up hk, hkp, hb, kd⟩
  · exact T.at_ q h⟩
end
/-! ## letters, texts of data -/
/-- data of depth at most n that can be laid -/
structure Lay (n : Nat) (d : PyData) : Prop where
  l : PyData.canLay0 d = true
  d : PyData.depth d ≤ n
theorem Lay.shaped {n : Nat} {d : PyData} (h : Lay n d) (hn : n ≤ 64) : SeqAt.shaped d = true := by
  show (PyData.canLay0 d && decide (PyData.depth d ≤ 64)) = true
  rw [h.l, decide_eq_true (Nat.le_trans h.d hn)]
  rfl
theorem Lay.up {n m : Nat} {d : PyData} (h : Lay n d) (hn : n ≤ m) : Lay m d := ⟨h.l, Nat.le_trans h.d hn⟩
theorem Lay.int {i : Int} : Lay 0 (.int i) := ⟨rfl, Nat.le_refl _⟩
theorem Lay.bl {i : Bool} : Lay 0 (.bool i) := ⟨rfl, Nat.le_refl _⟩
theorem Lay.non : Lay 0 .none := ⟨rfl, Nat.le_refl _⟩
theorem Lay.str {z : Str} (h : PyData.strOk z = true) : Lay 0 (.str z) := ⟨h, Nat.le_refl _⟩
theorem Lay.all {n : Nat} : ∀ {ds : List PyData}, (∀ d ∈ ds, Lay n d) → PyData.canLayAll0 ds = true ∧ PyData.depthAll ds ≤ n
  | [], _ => ⟨rfl, Nat.zero_le _⟩
  | d :: ds, h => by
    obtain ⟨h1, h2⟩ := Lay.all fun e he => h e (.tail _ he)
    have h0 := h d (.head _)
    refine ⟨?_, ?_⟩
    · show (PyData.canLay0 d && PyData.canLayAll0 ds) = true
      rw [h0.l, h1]
      rfl
    · show max (PyData.depth d) (PyData.depthAll ds) ≤ n
      exact Nat.max_le.mpr ⟨h0.d, h2⟩
theorem Lay.lst {n : Nat} {ds : List PyData} (h : ∀ d ∈ ds, Lay n d) : Lay (n + 1) (.list ds) := ⟨(Lay.all h).1, Nat.succ_le_succ (Lay.all h).2⟩
theorem Lay.tup {n : Nat} {ds : List PyData} (h : ∀ d ∈ ds, Lay n d) : Lay (n + 1) (.tuple ds) := ⟨(Lay.all h).1, Nat.succ_le_succ (Lay.all h).2⟩
/-! ## methods of texts -/
section
variable {X : Cx} {j : Nat}
end
/-! ## names -/
/-! ## a tuple by 0, by 1, by more -/
section
variable {X : Cx} {j : Nat}
/-! ## dicts that hold the same -/
/-! ## d.clear() -/
end
/-! ## targets with a star -/
section
variable {prog : Program} {w : World} {A : Around} {E : Value → Shared → Prop} {s : Shared}
end
section
variable {X : Cx} {j : Nat} {tg : Expr} {tgs : List Expr} {g : RG} {gs : RGs} {p pos : Pos}
end
/-! ## a def that calls itself: at depth 0 it promises nothing -/
def noSp : Sp := fun _ _ _ _ => False
section
variable {P : Program} {w : World} {K : PySem.W.Frag} {mg : Str → Option Value} {base : Heap} {n : Str} {st : Stmt} {ps : List Str} {k : Nat}
theorem Def.no (d : Def K mg n st ps) : Cal P w K mg base n k ps [] noSp :=
  ⟨d.f, d.fd, [], ⟨fun _ _ _ _ h => h.elim, fun _ _ _ _ _ _ _ _ _ _ _ _ _ _ _ _ h => h.elim⟩, d.g, d.F.kp, d.b, .nil, by
    obtain ⟨oc, od, kV, doc, pm, an, cd, ct, osl, e, lk, _⟩ := d.F.ex
    exact ⟨oc, od, osl, lk⟩⟩
/-! ## a name that holds one of some defs, called -/
structure FunV (P : Program) (w : World) (K : PySem.W.Frag) (mg : Str → Option Value) (base : Heap) (k : Nat) (tab : List (Addr × Sp)) : Prop where
  at_ : ∀ q ∈ tab, ∃ (fd : FuncData) (ps : List Str), FnG P w K mg base k q.1 fd ps q.2 ∧ PySem.W.keepIn K (.ref q.1) = true ∧ Binds K fd ps []
theorem FunV.nil : FunV P w K mg base k [] := ⟨fun _ h => nomatch h⟩
theorem FunV.cons {f : Addr} {sp : Sp} {k' : Nat} {tab : List (Addr × Sp)} (C : Cal P w K mg base n k' ps [] sp) (hg : mg n = some (.ref f)) (T : FunV P w K mg base k tab) (hk : k' ≤ k := by decide) : FunV P w K mg base k ((f, sp) :: tab) := ⟨fun q hq => by
  rcases List.mem_cons.mp hq with e | h
  · subst e
    obtain ⟨f2, fd, ds, F, hm, hkp, hb, hd, _⟩ := C.ex
    rw [hg] at hm
    cases hm
    cases hd
    exact ⟨fd, ps, F.up hk, hkp, hb⟩
  · exact T.at_ q h⟩
end
section
variable {X : Cx} {j k : Nat} {W : WX} {e : Expr} {es : List Expr} {σ : St} {H H1 : Hp} {Q : VK} {pos p : Pos} {ti : RX} {tr : RA} {x : Str} {tab : List (Addr × Sp)}
end
/-! ## dicts of the module, from texts to what is written -/
section
variable {X : Cx} {D : Addr} {tab : List (Str × V)}
end
/-! ## // by a divisor of either sign -/
/-! ## try: readings -/
section
variable {X : Cx} {j : Nat} {W : WX} {body suite : List Stmt} {b0 : Stmt} {n x : Str} {i k : Nat} {C : Addr} {np pos pos' : Pos} {zb : RS}
abbrev RH := Addr → Value → Option Addr → RS
structure SH (X : Cx) (j : Nat) (zh : RH) (sts : List Stmt) : Prop where
  run : ∀ (a : Addr) (oe : Obj) (cls : Value) (d : Option Addr) (pn : List (Addr × Obj)), Zc cls d oe → (∃ vs, oe.data = .fields vs) → SSs (X.suite a ((a, oe) :: pn)) j (zh a cls d) sts
end
/-! ## numbers and their texts -/
section
variable {X : Cx} {j : Nat}
end
/-! ## figures: the text of a number -/
/-! ## loops whose body has a name -/
section
variable {n : Nat} {G : Hp → Prop} {body : RS} {D : Ends} {W : WX} {σ : St} {H1 : Hp} {s : Nat}
end
/-! ## repr of data with dicts in it -/
mutual
/-- no list and no dict in it -/
def flatD : PyData → Bool
  | .none => true
  | .bool _ => true
  | .int _ => true
  | .str _ => true
  | .tuple xs => flatDs xs
  | .list _ => false
  | .dict _ => false
def flatDs : List PyData → Bool
  | [] => true
  | x :: xs => flatD x && flatDs xs
end
section
variable {X : Cx} {pins : List (Addr × Obj)} {σ : St} {H : Hp} {s : Shared}
end
def keyD : Key → PyData
  | .inl i => .int i
  | .inr x => .str x
/-- what a dict of flat things holds -/
inductive Dk (K : PySem.W.Frag) (H : Hp) : List (Key × V) → List (PyData × PyData) → Prop where
  | nil : Dk K H [] []
  | cons {k : Key} {v : V} {d : PyData} {kvs : List (Key × V)} {ds : List (PyData × PyData)} (h : Dp K H v d) (f : flatD d = true) (r : Dk K H kvs ds) : Dk K H ((k, v) :: kvs) ((keyD k, d) :: ds)
inductive D1 (K : PySem.W.Frag) (H : Hp) : V → PyData → Prop where
  | of {v : V} {d : PyData} (h : Dp K H v d) (f : flatD d = true) : D1 K H v d
  | dct {a : Addr} {kvs : List (Key × V)} {ds : List (PyData × PyData)} (h : H a = some (.dK kvs)) (r : Dk K H kvs ds) : D1 K H (.ref a) (.dict ds)
inductive D1s (K : PySem.W.Frag) (H : Hp) : List V → List PyData → Prop where
  | nil : D1s K H [] []
  | cons {v : V} {d : PyData} {vs : List V} {ds : List PyData} (h : D1 K H v d) (r : D1s K H vs ds) : D1s K H (v :: vs) (d :: ds)
inductive D2 (K : PySem.W.Frag) (H : Hp) : V → PyData → Prop where
  | of {v : V} {d : PyData} (h : Dp K H v d) : D2 K H v d
  | one {v : V} {d : PyData} (h : D1 K H v d) : D2 K H v d
  | lst {a : Addr} {xs : List V} {ds : List PyData} (h : H a = some (.lst xs)) (n : (a == sysModules) = false) (r : D1s K H xs ds) : D2 K H (.ref a) (.list ds)
theorem Dk.ex {K : PySem.W.Frag} {H H' : Hp} (x : Ex H H') {kvs : List (Key × V)} {ds : List (PyData × PyData)} (h : Dk K H kvs ds) : Dk K H' kvs ds := by
  induction h with
  | nil => exact .nil
  | cons h f _ ih => exact .cons (Dp.ex x h) f ih
theorem D1.ex {K : PySem.W.Frag} {H H' : Hp} (x : Ex H H') {v : V} {d : PyData} (h : D1 K H v d) : D1 K H' v d := by
  cases h with
  | of h f => exact .of (Dp.ex x h) f
  | dct h r => exact .dct (x _ _ h) (r.ex x)
theorem D1s.ex {K : PySem.W.Frag} {H H' : Hp} (x : Ex H H') {vs : List V} {ds : List PyData} (h : D1s K H vs ds) : D1s K H' vs ds := by
  induction h with
  | nil => exact .nil
  | cons h _ ih => exact .cons (h.ex x) ih
theorem D2.ex {K : PySem.W.Frag} {H H' : Hp} (x : Ex H H') {v : V} {d : PyData} (h : D2 K H v d) : D2 K H' v d := by
  cases h with
  | of h => exact .of (Dp.ex x h)
  | one h => exact .one (h.ex x)
  | lst h n r => exact .lst (x _ _ h) n (r.ex x)
section
variable {X : Cx} {pins : List (Addr × Obj)} {σ : St} {H : Hp} {s : Shared}
end
/-- data, dicts among it, that repr can tell -/
structure RqOk (d : PyData) : Prop where
  l : PyData.leavesShort 130 d = true
  s : PyData.showable d = true
  b : d.bulk ≤ 20000
  p : d.depth ≤ 60
theorem RpOk.q {d : PyData} (h : RpOk d) : RqOk d := ⟨(fits.short d h.f).1, (fits.short d h.f).2.1, h.b, h.p⟩
theorem RqOk.len {d : PyData} (h : RqOk d) : d.shown.length ≤ sizeLine := by
  have := PyData.shown_le_bulk 130 (by decide) d h.l
  have b := h.b
  rw [sizeLine_eq]
  omega
section
variable {X : Cx} {j : Nat} {W : WX} {k : Nat} {H : Hp} {v : V} {d : PyData} {e : Expr} {es : List Expr} {tr : RA} {pos p : Pos}
end
/-! ## is True, is False of numbers; the order of texts -/
section
variable {X : Cx}
end
/-! ## own errors whose __init__ is a def -/
/-- what a call of an own class does whose __new__ is newId -/
def MakesOwn (newId : String) (tl : List Value) : Prop := ∀ {prog : Program} {w : World} {A : Around} {R : Result → Shared → Prop} {hp : Heap} {g : Array GenState} {d : Drawn} {t : Nat} {os : OsState}
    {nm q : Str} {C N fI : Addr} {bs bm rest sub : List Value} {hdct ab : Bool} {sn : List Str} {col : Option Bool} {dd : Option Addr} {k0 k1 k2 k3 k5 : Option Value},
    (∀ Y : String, bm.contains (.type Y) = tl.contains (.type Y)) → hp.get? C = some (excClassObj nm q C N bs bm hdct sn sub ab col dd k0 k1 k2 k3 k5 newId) →
    PySem.W.Looks (model prog w) hp (typeLookup (.ref C) "__init__") (some (.ref fI)) → (∀ self, PySem.W.Looks (model prog w) hp (bindSpecial (.ref fI) self) (.ref fI, [self])) → rest.length ≤ sizeLine →
    codeAny (model prog w) (A.under (.builtin "type.__call__" ⟨.ref C :: rest, []⟩)) (.call (.ref fI) ⟨.ref (hp.objs.size + 1) :: rest, []⟩) (PySem.W.InitBack (hp.objs.size + 1) R)
      ⟨(hp.push (PySem.W.kdv_tup rest)).push (PySem.HandSPX.excO C hp.objs.size), g, d, t, os⟩ → codeAny (model prog w) A (.call (.ref C) ⟨rest, []⟩) R ⟨hp, g, d, t, os⟩
/-- what B.__init__(e, ..) does -/
def InitsOwn (newId initId : String) (tl : List Value) : Prop := ∀ {prog : Program} {w : World} {A : Around} {R : Result → Shared → Prop} {hp : Heap} {g : Array GenState} {d : Drawn} {t : Nat} {os : OsState}
    {nm q : Str} {C N e t0 : Addr} {bs bm rest sub : List Value} {hdct ab : Bool} {sn : List Str} {col : Option Bool} {dd : Option Addr} {k0 k1 k2 k3 k5 : Option Value},
    (∀ Y : String, bm.contains (.type Y) = tl.contains (.type Y)) → hp.get? C = some (excClassObj nm q C N bs bm hdct sn sub ab col dd k0 k1 k2 k3 k5 newId) → hp.get? e = some (PySem.HandSPX.excO C t0) → rest.length ≤ sizeLine →
    (∀ h2 t1, (∀ b o, b ≠ e → hp.get? b = some o → h2.get? b = some o) → h2.get? e = some (PySem.HandSPX.excO C t1) → R (.ok (.ret .none)) ⟨h2, g, d, t, os⟩) →
    codeAny (model prog w) A (.call (.builtin initId) ⟨.ref e :: rest, []⟩) R ⟨hp, g, d, t, os⟩
/-- an own class of error over the built-in class B -/
structure OwE (K : PySem.W.Frag) (C : Addr) (B newId initId : String) (tl : List Value) : Prop where
  mo : MakesOwn newId tl
  ib : InitsOwn newId initId tl
  sf : StoreFacts B tl "object.__setattr__" "object"
  ini : PySem.W.excInitIn K C tl newId = true
  over : PySem.W.excOver K C tl = true
  hd : PySem.W.hasDictIn K C = true
  sa : PySem.W.findIn K (.ref C) "__setattr__" = some (some (.builtin "object.__setattr__"))
  sb : PySem.W.subIn K (.ref C) (.type "BaseException") = some true
  ty : PySem.W.typeIn K (.ref C) = some (.type "type")
  kp : PySem.W.keepIn K (.ref C) = true
section
open Builtin Builtin.ObjectAttr
variable {prog : Program} {w : World} {A : Around} {R : Result → Shared → Prop} {hp : Heap} {g : Array GenState} {dr : Drawn} {t0 : Nat} {os : OsState} {K : PySem.W.Frag} {B newId initId : String} {tl : List Value} {x C : Addr} {fn : Str} {tok : Tok} {val : Value} {fv : Array Value}
end
section
variable {X : Cx} {pins : List (Addr × Obj)} {σ : St} {H : Hp} {s : Shared} {a C dx : Addr} {f : Str} {y : V} {u : Value} {fs : List (Str × V)} {Q : Unit → Shared → Prop} {E : Value → Shared → Prop} {A : Around} {B newId initId : String} {tl : List Value}
end
/-! ## walks: the values of a dict, enumerate, zip -/
section
variable {X : Cx} {j : Nat} {e e2 tg : Expr} {elts : List Expr} {kk : Nat} {t : RX} {tr : RA} {apos cpos tpos p pos : Pos}
/-- the places and things of a list, each pair a new tuple -/
def yEn (xs : List V) : Nat → Hp → VK → Prop := fun i H k => ∀ T x, xs[i]? = some x → H T = none → k (.ref T) (upd H T (.tup [.int i, x]))
def iEn (K : PySem.W.Frag) (t : RA) : RI := fun σ H R W => t σ H (fun vs H1 => ∃ a xs, vs = [.ref a] ∧ SqL K H1 a xs ∧ R xs.length (fun H => SqL K H a xs) (yEn xs) H1) W
theorem i_En (hm : X.mg "enumerate" = none) (h : SA X j tr [e]) (hg : Gl X "enumerate" := by rfl) (hs : starEach [e] X.env = [(false, eval e X.env)] := by rfl) : SIt X j (iEn X.K tr) (.Tuple elts kk tpos) (.Call (.Name "enumerate" p) [e] [] pos) :=
  ⟨_, pi_enum hg hm pa_W hs, fun c σ H R q H1 x F k => (h.run c q).t x fun vs H2 ⟨H3, x3, a, xs, ev, hx, q⟩ => ⟨a, xs, ev, x3.sqL hx, k _ _ _ _ _ _ x3 ⟨_, _, walk_enum, fun H H1 g x => x.sqL g, fun i H H1 v H1' K hi e y q => by
  obtain ⟨T, a, b, rfl, nT, rfl, h1, h2⟩ := y
  cases h1
  exact ⟨_, e.set T _, q T b h2 (e.free nT)⟩⟩ q⟩⟩
/-- the pairs of two lists -/
def yZp (xs ys : List V) : Nat → Hp → VK → Prop := fun i H k => ∀ T x y, xs[i]? = some x → ys[i]? = some y → H T = none → k (.ref T) (upd H T (.tup [x, y]))
def iZp (K : PySem.W.Frag) (t : RA) : RI := fun σ H R W => t σ H (fun vs H1 => ∃ a b xs ys, vs = [.ref a, .ref b] ∧ SqL K H1 a xs ∧ SqL K H1 b ys ∧ R (min xs.length ys.length) (fun H => SqL K H a xs ∧ SqL K H b ys) (yZp xs ys) H1) W
theorem i_Zp (hm : X.mg "zip" = none) (h : SA X j tr [e, e2]) (hg : Gl X "zip" := by rfl) (hs : starEach [e, e2] X.env = (false, eval e X.env) :: starEach [e2] X.env := by rfl) (hpl : (backTo pos (starEach [e2] X.env)).any (·.1) = false := by rfl) : SIt X j (iZp X.K tr) (.Tuple elts kk tpos) (.Call (.Name "zip" p) [e, e2] [] pos) :=
  ⟨_, pi_zip hg hm pa_W hs hpl, fun c σ H R q H1 x F k => (h.run c q).t x fun vs H2 ⟨H3, x3, a, b, xs, ys, ev, hx, hy, q⟩ => ⟨a, b, xs, ys, ev, x3.sqL hx, x3.sqL hy, k _ _ _ _ _ _ x3 ⟨_, _, walk_zip rfl, fun H H1 g x => ⟨x.sqL g.1, x.sqL g.2⟩, fun i H H1 v H1' K hi e y q => by
  obtain ⟨T, a, b, rfl, nT, rfl, h1, h2⟩ := y
  exact ⟨_, e.set T _, q T a b h1 h2 (e.free nT)⟩⟩ q⟩⟩
end
/-! ## regions: what is told of the heap at some addresses -/
abbrev Ads := List Addr
/-- things that change in place; instances of the class CS never do -/
def Mo (CS : Addr) : HO → Prop
  | .lst _ => True
  | .dK _ => True
  | .ins C _ _ => C ≠ CS
  | .frz _ _ => True
  | _ => False
def Out (CS : Addr) (T : Ads) (H : Hp) : Prop := ∀ b ∈ T, ∀ o, H b = some o → Mo CS o
def Dj (A B : Ads) : Prop := ∀ b ∈ A, b ∉ B
theorem Dj.symm {A B : Ads} (h : Dj A B) : Dj B A := fun b hb ha => h b ha hb
theorem Dj.nil {A : Ads} : Dj A [] := fun _ _ h => nomatch h
theorem Dj.app {A B C : Ads} (h1 : Dj A C) (h2 : Dj B C) : Dj (A ++ B) C := fun b hb => (List.mem_append.mp hb).elim (h1 b) (h2 b)
theorem Dj.left {A B C : Ads} (h : Dj (A ++ B) C) : Dj A C := fun b hb => h b (List.mem_append_left _ hb)
theorem Dj.right {A B C : Ads} (h : Dj (A ++ B) C) : Dj B C := fun b hb => h b (List.mem_append_right _ hb)
theorem Dj.app2 {A B C : Ads} (h1 : Dj A B) (h2 : Dj A C) : Dj A (B ++ C) := (Dj.app h1.symm h2.symm).symm
theorem Dj.left2 {A B C : Ads} (h : Dj A (B ++ C)) : Dj A B := h.symm.left.symm
theorem Dj.right2 {A B C : Ads} (h : Dj A (B ++ C)) : Dj A C := h.symm.right.symm
structure Rg (CS : Addr) (P : Ads → Hp → Prop) : Prop where
  live : ∀ {S H}, P S H → ∀ b ∈ S, ∃ o, H b = some o ∧ Mo CS o
  loc : ∀ {S H H' T}, P S H → Fr T H H' → Out CS T H → Dj S T → P S H'
/-- what never changes -/
structure Imm (CS : Addr) (F : Hp → Prop) : Prop where
  loc : ∀ {H H' T}, F H → Fr T H H' → Out CS T H → F H'
/-- a step: outside S all stays, S' is of S or new -/
structure Op (S S' : Ads) (H H' : Hp) : Prop where
  fr : Fr S H H'
  new : ∀ b ∈ S', b ∈ S ∨ H b = none
section
variable {CS : Addr} {P P' Q Q' R : Ads → Hp → Prop} {F G : Hp → Prop} {S S' S2 T A A' B B' : Ads} {H H' H1 H2 : Hp}
theorem Rg.out (r : Rg CS P) (h : P S H) : Out CS S H := fun b hb o e => by
  obtain ⟨u, e2, m⟩ := r.live h b hb
  rw [e] at e2
  cases e2
  exact m
theorem Rg.ex (r : Rg CS P) (h : P S H) (x : Ex H H') : P S H' := r.loc h (T := []) (.of_ex x) (fun _ h => nomatch h) .nil
theorem Rg.fresh (r : Rg CS P) (h : P S H) {b : Addr} (n : H b = none) : b ∉ S := fun hb => by
  obtain ⟨o, e, _⟩ := r.live h b hb
  rw [n] at e
  cases e
theorem Imm.ex (i : Imm CS F) (h : F H) (x : Ex H H') : F H' := i.loc h (T := []) (.of_ex x) fun _ h => nomatch h
theorem Op.refl : Op S S H H := ⟨fun _ _ _ h => h, fun _ h => .inl h⟩
theorem Op.of_ex (x : Ex H H') : Op S S H H' := ⟨.of_ex x, fun _ h => .inl h⟩
theorem Op.back (o : Op S S' H H') {b : Addr} (n : H' b = none) : H b = none ∨ b ∈ S := by
  by_cases h : b ∈ S
  · exact .inr h
  · refine .inl ?_
    cases e : H b with
    | none => rfl
    | some u => rw [o.fr b u h e] at n; cases n
theorem Op.trans (o : Op S S' H H1) (p : Op S' S2 H1 H2) : Op S S2 H H2 := by
  refine ⟨fun b u n e => p.fr b u (fun h => ?_) (o.fr b u n e), fun b hb => ?_⟩
  · rcases o.new b h with h | h
    · exact n h
    · rw [h] at e; cases e
  · rcases p.new b hb with h | h
    · exact o.new b h
    · rcases o.back h with h | h
      · exact .inr h
      · exact .inl h
/-- what lies apart is kept -/
theorem Rg.keep (r : Rg CS Q) (hq : Q B H) (out : Out CS S H) (o : Op S S' H H') (d : Dj S B) : Q B H' ∧ Dj S' B := by
  refine ⟨r.loc hq o.fr out d.symm, fun b hb h2 => ?_⟩
  rcases o.new b hb with h | h
  · exact d b h h2
  · exact r.fresh hq h h2
theorem Imm.keep (i : Imm CS F) (hf : F H) (out : Out CS S H) (o : Op S S' H H') : F H' := i.loc hf o.fr out
theorem Op.left (o : Op A A' H H') : Op (A ++ B) (A' ++ B) H H' := ⟨fun b u n e => o.fr b u (fun h => n (List.mem_append_left _ h)) e, fun b hb => by
  rcases List.mem_append.mp hb with h | h
  · exact (o.new b h).imp (List.mem_append_left _) id
  · exact .inl (List.mem_append_right _ h)⟩
theorem Op.right (o : Op B B' H H') : Op (A ++ B) (A ++ B') H H' := ⟨fun b u n e => o.fr b u (fun h => n (List.mem_append_right _ h)) e, fun b hb => by
  rcases List.mem_append.mp hb with h | h
  · exact .inl (List.mem_append_left _ h)
  · exact (o.new b h).imp (List.mem_append_right _) id⟩
/-! ### two regions side by side -/
def R2 (P Q : Ads → Hp → Prop) : Ads → Hp → Prop := fun S H => ∃ A B, S = A ++ B ∧ Dj A B ∧ P A H ∧ Q B H
theorem R2.mk (p : P A H) (q : Q B H) (d : Dj A B) : R2 P Q (A ++ B) H := ⟨A, B, rfl, d, p, q⟩
theorem Rg.and (p : Rg CS P) (q : Rg CS Q) : Rg CS (R2 P Q) := ⟨fun ⟨A, B, e, d, hp, hq⟩ b hb => by
  rw [e] at hb
  exact (List.mem_append.mp hb).elim (p.live hp b) (q.live hq b), fun ⟨A, B, e, d, hp, hq⟩ f o dj => by
  subst e
  exact ⟨A, B, rfl, d, p.loc hp f o dj.left, q.loc hq f o dj.right⟩⟩
theorem Rg.stepL (p : Rg CS P) (q : Rg CS Q) (hp : P A H) (hq : Q B H) (d : Dj A B) (o : Op A A' H H') (hp' : P' A' H') : R2 P' Q (A' ++ B) H' ∧ Op (A ++ B) (A' ++ B) H H' := by
  obtain ⟨h1, h2⟩ := q.keep hq (p.out hp) o d
  exact ⟨.mk hp' h1 h2, o.left⟩
theorem Rg.stepR (p : Rg CS P) (q : Rg CS Q) (hp : P A H) (hq : Q B H) (d : Dj A B) (o : Op B B' H H') (hq' : Q' B' H') : R2 P Q' (A ++ B') H' ∧ Op (A ++ B) (A ++ B') H H' := by
  obtain ⟨h1, h2⟩ := p.keep hp (q.out hq) o d.symm
  exact ⟨.mk h1 hq' h2.symm, o.right⟩
theorem Rg.nil : Rg CS (fun S _ => S = []) := ⟨fun h b hb => (by rw [h] at hb; cases hb), fun h _ _ _ => h⟩
/-! ### one object -/
def O1 (CS a : Addr) (o : HO) : Ads → Hp → Prop := fun S H => S = [a] ∧ H a = some o ∧ Mo CS o
theorem Rg.one {a : Addr} {o : HO} : Rg CS (O1 CS a o) := ⟨fun ⟨e, h, m⟩ b hb => by
  rw [e] at hb
  rw [List.mem_singleton.mp hb]
  exact ⟨o, h, m⟩, fun ⟨e, h, m⟩ f _ d => ⟨e, f _ _ (d _ (by rw [e]; exact .head _)) h, m⟩⟩
def I1 (CS C a : Addr) (fs : List (Str × V)) : Ads → Hp → Prop := fun S H => S = [a] ∧ (∃ dx, H a = some (.ins C dx fs)) ∧ C ≠ CS
theorem Rg.ins {C a : Addr} {fs : List (Str × V)} : Rg CS (I1 CS C a fs) := ⟨fun ⟨e, ⟨dx, h⟩, m⟩ b hb => by
  rw [e] at hb
  rw [List.mem_singleton.mp hb]
  exact ⟨_, h, m⟩, fun ⟨e, ⟨dx, h⟩, m⟩ f _ d => ⟨e, ⟨dx, f _ _ (d _ (by rw [e]; exact .head _)) h⟩, m⟩⟩
theorem op_upd {a : Addr} {o : HO} : Op [a] [a] H (upd H a o) := ⟨fun b u n e => by
  rw [upd_ne (fun z => n (by rw [z]; exact .head _))]
  exact e, fun _ h => .inl h⟩
theorem op_new {a : Addr} {o : HO} (n : H a = none) : Op [] [a] H (upd H a o) := ⟨.of_ex (Ex.put n), fun b hb => .inr (by rw [List.mem_singleton.mp hb]; exact n)⟩
theorem O1.set {a : Addr} {o o' : HO} (h : O1 CS a o S H) (m : Mo CS o') : O1 CS a o' S (upd H a o') ∧ Op S S H (upd H a o') := by
  obtain ⟨rfl, _, _⟩ := h
  exact ⟨⟨rfl, upd_same, m⟩, op_upd⟩
theorem I1.set {C a dx : Addr} {fs fs' : List (Str × V)} (h : I1 CS C a fs S H) : I1 CS C a fs' S (upd H a (.ins C dx fs')) ∧ Op S S H (upd H a (.ins C dx fs')) := by
  obtain ⟨rfl, _, m⟩ := h
  exact ⟨⟨rfl, ⟨dx, upd_same⟩, m⟩, op_upd⟩
theorem O1.new {a : Addr} {o : HO} (n : H a = none) (m : Mo CS o) : O1 CS a o [a] (upd H a o) ∧ Op [] [a] H (upd H a o) := ⟨⟨rfl, upd_same, m⟩, op_new n⟩
/-! ### many regions -/
def RgM {α : Type} (P : α → Ads → Hp → Prop) : List α → Ads → Hp → Prop
  | [] => fun S _ => S = []
  | x :: xs => R2 (P x) (RgM P xs)
theorem Rg.many {α : Type} {P : α → Ads → Hp → Prop} (p : ∀ x, Rg CS (P x)) : ∀ xs, Rg CS (RgM P xs)
  | [] => Rg.nil
  | x :: xs => (p x).and (Rg.many p xs)
theorem RgM.app {α : Type} {P : α → Ads → Hp → Prop} : ∀ {xs ys : List α} {S : Ads}, RgM P (xs ++ ys) S H → R2 (RgM P xs) (RgM P ys) S H
  | [], ys, S, h => ⟨[], S, rfl, fun _ h => (nomatch h), rfl, h⟩
  | x :: xs, ys, S, ⟨A, B, e, d, hp, hq⟩ => by
    obtain ⟨B1, B2, e2, d2, h1, h2⟩ := RgM.app hq
    subst e e2
    exact ⟨A ++ B1, B2, (List.append_assoc ..).symm, Dj.app d.right2 d2, ⟨A, B1, rfl, d.left2, hp, h1⟩, h2⟩
theorem RgM.join {α : Type} {P : α → Ads → Hp → Prop} : ∀ {xs ys : List α} {S : Ads}, R2 (RgM P xs) (RgM P ys) S H → RgM P (xs ++ ys) S H
  | [], ys, S, ⟨A, B, e, d, h1, h2⟩ => by
    have h1 : A = [] := h1
    subst h1
    rw [e]
    exact h2
  | x :: xs, ys, S, ⟨A, B, e, d, ⟨A1, A2, e2, d2, h0, h1⟩, h2⟩ => by
    subst e e2
    rw [List.append_assoc]
    exact ⟨A1, A2 ++ B, rfl, Dj.app2 d2 d.left, h0, RgM.join ⟨A2, B, rfl, d.right, h1, h2⟩⟩
/-- the thing at a place -/
theorem RgM.at {α : Type} {P : α → Ads → Hp → Prop} {xs ys : List α} {x : α} (h : RgM P (xs ++ x :: ys) S H) : ∃ A B C, S = A ++ (B ++ C) ∧ Dj A (B ++ C) ∧ Dj B C ∧ RgM P xs A H ∧ P x B H ∧ RgM P ys C H := by
  obtain ⟨A, D, e, d, h1, B, C, e2, d2, h2, h3⟩ := RgM.app h
  subst e e2
  exact ⟨A, B, C, rfl, d, d2, h1, h2, h3⟩
/-- a step of one of them -/
theorem RgM.step {α : Type} {P : α → Ads → Hp → Prop} {xs ys : List α} {x x' : α} (p : ∀ x, Rg CS (P x)) (dA : Dj A (B ++ T)) (dB : Dj B T) (h1 : RgM P xs A H) (h2 : P x B H) (h3 : RgM P ys T H) (o : Op B B' H H') (h : P x' B' H') :
    RgM P (xs ++ x' :: ys) (A ++ (B' ++ T)) H' ∧ Op (A ++ (B ++ T)) (A ++ (B' ++ T)) H H' := by
  obtain ⟨k1, o1⟩ := (p x).stepL (Rg.many p ys) h2 h3 dB o h
  have rg : Rg CS (R2 (P x) (RgM P ys)) := (p x).and (Rg.many p ys)
  have rg' : Rg CS (R2 (P x') (RgM P ys)) := (p x').and (Rg.many p ys)
  obtain ⟨k2, o2⟩ := (Rg.many p xs).stepR rg h1 ⟨B, T, rfl, dB, h2, h3⟩ dA o1 k1
  exact ⟨RgM.join k2, o2⟩
end
/-! ### facts that never change -/
section
variable {CS : Addr} {H : Hp}
theorem Imm.tup {a : Addr} {xs : List V} : Imm CS (fun H => H a = some (.tup xs)) := ⟨fun {H H' T} h f o => f _ _ (fun m => (o a m _ h : False).elim) h⟩
theorem Imm.true : Imm CS (fun _ => True) := ⟨fun _ _ _ => trivial⟩
theorem Imm.pure {p : Prop} : Imm CS (fun _ => p) := ⟨fun h _ _ => h⟩
theorem Imm.and {F G : Hp → Prop} (f : Imm CS F) (g : Imm CS G) : Imm CS (fun H => F H ∧ G H) := ⟨fun h k o => ⟨f.loc h.1 k o, g.loc h.2 k o⟩⟩
theorem Imm.all {α : Type} {F : α → Hp → Prop} (f : ∀ x, Imm CS (F x)) : Imm CS (fun H => ∀ x, F x H) := ⟨fun h k o x => (f x).loc (h x) k o⟩
theorem Imm.imp {p : Prop} {F : Hp → Prop} (f : Imm CS F) : Imm CS (fun H => p → F H) := ⟨fun h k o hp => f.loc (h hp) k o⟩
end
/-! ## several except clauses, each with or without a name -/
abbrev CL := List (Value × Option Nat × (Addr → Value → Option Addr → TS))
inductive HsOk (X : Cx) : List ExceptHandler → CL → Prop
  | nil : HsOk X [] []
  | one {x : Str} {c : Value} {ts : Addr → Value → Option Addr → TS} {b₀ : Stmt} {suite : List Stmt} {np pos' : Pos} {hds : List ExceptHandler} {l : CL} (hc : Names X x c)
      (hsu : ∀ (a : Addr) (oe : Obj) (cls : Value) (d : Option Addr) (pn : List (Addr × Obj)), Zc cls d oe → (∃ vs, oe.data = .fields vs) → PSs (X.suite a ((a, oe) :: pn)) (b₀ :: suite) (ts a cls d)) (r : HsOk X hds l) :
      HsOk X (.ExceptHandler (some (.Name x np)) none (b₀ :: suite) pos' :: hds) ((c, none, ts) :: l)
  | as {x n : Str} {i : Nat} {c : Value} {ts : Addr → Value → Option Addr → TS} {b₀ : Stmt} {suite : List Stmt} {np pos' : Pos} {hds : List ExceptHandler} {l : CL} (hc : Names X x c) (hN : X.N.Nodup) (hi : X.N[i]? = some n) (hln : X.env.kindOf n = some .local)
      (hsu : ∀ (a : Addr) (oe : Obj) (cls : Value) (d : Option Addr) (pn : List (Addr × Obj)), Zc cls d oe → (∃ vs, oe.data = .fields vs) → PSs (X.suite a ((a, oe) :: pn)) (b₀ :: suite) (ts a cls d)) (r : HsOk X hds l) :
      HsOk X (.ExceptHandler (some (.Name x np)) (some n) (b₀ :: suite) pos' :: hds) ((c, some i, ts) :: l)
section
variable {X : Cx} {body : List Stmt} {h₀ : ExceptHandler} {hds : List ExceptHandler} {l : CL} {pos : Pos} {tb : WX → TS} {Wout : WX}
end
/-- the clauses as they are written: class, slot, suite -/
abbrev CW := List (Value × Option Nat × List Stmt)
def tS3 (X : Cx) (p : Value × Option Nat × List Stmt) : Value × Option Nat × (Addr → Value → Option Addr → TS) := (p.1, p.2.1, tSuite X p.2.2)
section
variable {X : Cx} {j k : Nat} {W : WX} {D : Ends} {σ : St} {H : Hp} {body : List Stmt} {h₀ : ExceptHandler} {hds : List ExceptHandler} {pos : Pos}
abbrev HL := List (Addr × Option Nat × RH)
inductive HK (X : Cx) (j : Nat) : List ExceptHandler → HL → CW → Prop
  | nil : HK X j [] [] []
  | one {x : Str} {C : Addr} {zh : RH} {b0 : Stmt} {suite : List Stmt} {np pos' : Pos} {hds : List ExceptHandler} {l : HL} {q : CW} (hx : X.mg x = some (.ref C)) (hh : SH X j zh (b0 :: suite)) (r : HK X j hds l q) (hg : Gl X x := by rfl) (hdb : (x == ("__debug__" : Str)) = false := by decide) :
      HK X j (.ExceptHandler (some (.Name x np)) none (b0 :: suite) pos' :: hds) ((C, none, zh) :: l) ((.ref C, none, b0 :: suite) :: q)
  | as {x n : Str} {i : Nat} {C : Addr} {zh : RH} {b0 : Stmt} {suite : List Stmt} {np pos' : Pos} {hds : List ExceptHandler} {l : HL} {q : CW} (hN : X.N.Nodup) (hi : X.N[i]? = some n) (hx : X.mg x = some (.ref C)) (hh : SH X j zh (b0 :: suite)) (r : HK X j hds l q) (hg : Gl X x := by rfl) (hln : X.env.kindOf n = some .local := by rfl) (hdb : (x == ("__debug__" : Str)) = false := by decide) :
      HK X j (.ExceptHandler (some (.Name x np)) (some n) (b0 :: suite) pos' :: hds) ((C, some i, zh) :: l) ((.ref C, some i, b0 :: suite) :: q)
theorem HK.ok {hds : List ExceptHandler} {l : HL} {q : CW} (h : HK X j hds l q) : HsOk X hds (q.map (tS3 X)) := by
  induction h with
  | nil => exact .nil
  | one hx hh r hg hdb ih => exact .one ⟨hg, hdb, .inl hx⟩ (fun a oe cls d pn hz hf => ⟨fun pins s σ H1 D1 I ⟨H, D, x, w, k⟩ => thn (w oe pn hz hf H1 x pins s I) fun u s' q => SP.le k q⟩) ih
  | as hN hi hx hh r hg hln hdb ih => exact .as ⟨hg, hdb, .inl hx⟩ hN hi hln (fun a oe cls d pn hz hf => ⟨fun pins s σ H1 D1 I ⟨H, D, x, w, k⟩ => thn (w oe pn hz hf H1 x pins s I) fun u s' q => SP.le k q⟩) ih
end
/-! ## isinstance of an error that the suite holds, with or without fields -/
section
open PySem.W PySem.Calls
variable {prog : Program} {w : World} {A : Around} {E : Value → Shared → Prop} {s : Shared} {K : Frag} {x D : Addr} {ox : Obj} {od : Option Obj}
end
/-- the error's fields stand where its dict is -/
def XdAt (d : Option Addr) (H : Hp) : Prop := d = none ∨ ∃ dd fs, d = some dd ∧ H dd = some (.xd fs)
theorem XdAt.ex {d : Option Addr} {H H1 : Hp} (x : Ex H H1) (h : XdAt d H) : XdAt d H1 := h.imp id fun ⟨dd, fs, e, z⟩ => ⟨dd, fs, e, x _ _ z⟩
section
variable {X : Cx} {j : Nat} {W : WX} {a : Addr} {oe : Obj} {cls : Value} {d : Option Addr} {pn : List (Addr × Obj)}
end
/-! ## own errors with own __init__: readings -/
theorem Ex.del {H H1 : Hp} (x : Ex H H1) (a : Addr) : Ex (del H a) (del H1 a) := fun b o h => by
  by_cases e : b = a
  · rw [e, del_same] at h
    cases h
  · rw [del_ne e] at h ⊢
    exact x b o h
section
variable {X : Cx} {j k : Nat} {W : WX} {σ : St} {H : Hp} {e o : Expr} {es : List Expr} {tr : RA} {to t : RX} {C S : Addr} {B newId initId : String} {tl : List Value} {n f : Str} {p p1 p2 pos pos' : Pos} {pl : Sem Bool}
end
/-! ## facts of the built-in bases -/
theorem kit_ty {K : PySem.W.Frag} {C : Addr} {U : String} {b : Bool} (h : PySem.W.kitMeta U = true) (e : PySem.W.subIn K (.ref C) (.type U) = some b) : PySem.W.kitOne K (.ref C) (.type U) = some b := by
  show (if (Value.ref C == Value.type U) = true then some true else if PySem.W.kitMeta U = true then PySem.W.subIn K (.ref C) (.type U) else none) = some b
  rw [if_neg (by simp), if_pos h]
  exact e
/-! ## what is raised, in plain words -/
/-! ## t == (), t a tuple of any things -/
section
variable {X : Cx}
end
/-! ## isinstance of own classes: facts -/
open PySem PySem.Spec PyProof.Rows PySem.F
/-! ## own errors over KeyError: they are made by LookupError's __new__ -/
section
variable {prog : Program} {w : World} {A : Around} {E : Value → Shared → Prop} {R : Result → Shared → Prop} {hp : Heap} {g : Array GenState} {d : Drawn} {t : Nat} {os : OsState}
variable {nm q : Str} {C N : Addr} {bs bm rest sub : List Value} {hdct ab : Bool} {sn : List Str} {col : Option Bool} {dd : Option Addr} {k0 k1 k2 k3 k5 : Option Value}
end
/-! ## xs.index(b), bools -/
section
variable {X : Cx}
end
/-! ## repr of any data, dicts anywhere in it -/
/-- what every heap at the law's entry has: the modules' dict, no limit for the figures of ints -/
structure SysB (base : Heap) : Prop where
  mods : ∃ mm, base.Ns sysModules mm
  figs : ∃ mc, base.Ns cStatics mc ∧ mc "sys.int_max_str_digits" = none
mutual
inductive Dg (K : PySem.W.Frag) (H : Hp) : V → PyData → Prop
  | non : Dg K H .non .none
  | bl (b : Bool) : Dg K H (.bl b) (.bool b)
  | int (i : Int) : Dg K H (.int i) (.int i)
  | str (x : Str) : Dg K H (.str x) (.str x)
  | lst {a : Addr} {xs : List V} {ds : List PyData} (h : SqL K H a xs) (r : Dgs K H xs ds) : Dg K H (.ref a) (.list ds)
  | tup {a : Addr} {xs : List V} {ds : List PyData} (h : SqT K H a xs) (r : Dgs K H xs ds) : Dg K H (.ref a) (.tuple ds)
  | dct {a : Addr} {kvs : List (Key × V)} {ps : List (PyData × PyData)} (h : H a = some (.dK kvs)) (r : Dgk K H kvs ps) : Dg K H (.ref a) (.dict ps)
inductive Dgs (K : PySem.W.Frag) (H : Hp) : List V → List PyData → Prop
  | nil : Dgs K H [] []
  | cons {v : V} {d : PyData} {vs : List V} {ds : List PyData} (h : Dg K H v d) (r : Dgs K H vs ds) : Dgs K H (v :: vs) (d :: ds)
inductive Dgk (K : PySem.W.Frag) (H : Hp) : List (Key × V) → List (PyData × PyData) → Prop
  | nil : Dgk K H [] []
  | cons {k : Key} {v : V} {d : PyData} {kvs : List (Key × V)} {ps : List (PyData × PyData)} (h : Dg K H v d) (r : Dgk K H kvs ps) : Dgk K H ((k, v) :: kvs) ((keyD k, d) :: ps)
end
mutual
theorem Dg.ex {K : PySem.W.Frag} {H H' : Hp} (x : Ex H H') : ∀ (d : PyData) {v : V}, Dg K H v d → Dg K H' v d
  | .none, _, .non => .non
  | .bool _, _, .bl b => .bl b
  | .int _, _, .int i => .int i
  | .str _, _, .str y => .str y
  | .list ds, _, .lst h r => .lst (x.sqL h) (Dgs.ex x ds r)
  | .tuple ds, _, .tup h r => .tup (x.sqT h) (Dgs.ex x ds r)
  | .dict ps, _, .dct h r => .dct (x _ _ h) (Dgk.ex x ps r)
theorem Dgs.ex {K : PySem.W.Frag} {H H' : Hp} (x : Ex H H') : ∀ (ds : List PyData) {vs : List V}, Dgs K H vs ds → Dgs K H' vs ds
  | [], _, .nil => .nil
  | d :: ds, _, .cons h r => .cons (Dg.ex x d h) (Dgs.ex x ds r)
theorem Dgk.ex {K : PySem.W.Frag} {H H' : Hp} (x : Ex H H') : ∀ (ps : List (PyData × PyData)) {kvs : List (Key × V)}, Dgk K H kvs ps → Dgk K H' kvs ps
  | [], _, .nil => .nil
  | (_, d) :: ps, _, .cons h r => .cons (Dg.ex x d h) (Dgk.ex x ps r)
end
mutual
theorem Dg.of {K : PySem.W.Frag} {H : Hp} : ∀ (d : PyData) {v : V}, Dp K H v d → Dg K H v d
  | .none, _, .non => .non
  | .bool _, _, .bl b => .bl b
  | .int _, _, .int i => .int i
  | .str _, _, .str y => .str y
  | .list ds, _, .lst h r => .lst h (Dgs.of ds r)
  | .tuple ds, _, .tup h r => .tup h (Dgs.of ds r)
theorem Dgs.of {K : PySem.W.Frag} {H : Hp} : ∀ (ds : List PyData) {vs : List V}, DpAll K H vs ds → Dgs K H vs ds
  | [], _, .nil => .nil
  | d :: ds, _, .cons h r => .cons (Dg.of d h) (Dgs.of ds r)
end
section
variable {X : Cx} {pins : List (Addr × Obj)} {σ : St} {H : Hp} {s : Shared}
end
section
variable {X : Cx} {j : Nat} {W : WX} {k : Nat} {H : Hp} {v : V} {d : PyData} {e : Expr} {es : List Expr} {tr : RA} {pos p : Pos}
end
/-! ## data that repr can tell, measured -/
structure Rm (d : PyData) (b p : Nat) : Prop where
  l : PyData.leavesShort 130 d = true
  s : PyData.showable d = true
  b : d.bulk ≤ b
  p : d.depth ≤ p
structure Rms (ds : List PyData) (b p : Nat) : Prop where
  l : PyData.leavesShortAll 130 ds = true
  s : PyData.showableAll ds = true
  b : PyData.bulkAll ds ≤ b
  p : PyData.depthAll ds ≤ p
theorem Rm.q {d : PyData} {b p : Nat} (h : Rm d b p) (hb : b ≤ 20000 := by omega) (hp : p ≤ 60 := by omega) : RqOk d := ⟨h.l, h.s, Nat.le_trans h.b hb, Nat.le_trans h.p hp⟩
theorem RqOk.m {d : PyData} (h : RqOk d) : Rm d 20000 60 := ⟨h.l, h.s, h.b, h.p⟩
theorem Rm.mono {d : PyData} {b p b' p' : Nat} (h : Rm d b p) (hb : b ≤ b' := by omega) (hp : p ≤ p' := by omega) : Rm d b' p' := ⟨h.l, h.s, Nat.le_trans h.b hb, Nat.le_trans h.p hp⟩
theorem Rm.non : Rm .none 0 0 := ⟨by simp only [PyData.leavesShort], by simp only [PyData.showable], by simp only [PyData.bulk]; omega, by simp only [PyData.depth]; omega⟩
theorem Rm.bl {b : Bool} : Rm (.bool b) 0 0 := ⟨by simp only [PyData.leavesShort], by simp only [PyData.showable], by simp only [PyData.bulk]; omega, by simp only [PyData.depth]; omega⟩
theorem Rm.int {i : Int} (h : i.natAbs < 10 ^ 120) : Rm (.int i) 0 0 := ⟨by simp only [PyData.leavesShort]; exact decide_eq_true (int_shown h), by simp only [PyData.showable]; exact decide_eq_true (int_log h), by simp only [PyData.bulk]; omega, by simp only [PyData.depth]; omega⟩
theorem Rm.str {z : Str} (h : PyData.strOk z = true) : Rm (.str z) z.length 0 := ⟨by
  unfold PyData.strOk at h
  rw [← Array.all_toList, List.all_eq_true] at h
  simp only [PyData.leavesShort, List.all_eq_true, decide_eq_true_eq]
  exact fun c hc => Nat.lt_trans (of_decide_eq_true (h c hc)) (by decide), by simp only [PyData.showable], by simp only [PyData.bulk]; exact Nat.le_refl _, by simp only [PyData.depth]; omega⟩
theorem Rms.nil : Rms [] 0 0 := ⟨by simp only [PyData.leavesShortAll], by simp only [PyData.showableAll], by simp only [PyData.bulkAll]; omega, by simp only [PyData.depthAll]; omega⟩
theorem Rms.cons {d : PyData} {ds : List PyData} {b p b' p' : Nat} (h : Rm d b p) (r : Rms ds b' p') : Rms (d :: ds) (b + 1 + b') (p + p') := ⟨by simp only [PyData.leavesShortAll, h.l, r.l, Bool.and_self], by simp only [PyData.showableAll, h.s, r.s, Bool.and_self], by
  have := h.b
  have := r.b
  simp only [PyData.bulkAll]
  omega, by
  have := h.p
  have := r.p
  simp only [PyData.depthAll]
  omega⟩
theorem Rms.mono {ds : List PyData} {b p b' p' : Nat} (h : Rms ds b p) (hb : b ≤ b' := by omega) (hp : p ≤ p' := by omega) : Rms ds b' p' := ⟨h.l, h.s, Nat.le_trans h.b hb, Nat.le_trans h.p hp⟩
theorem Rms.all {ds : List PyData} {b p : Nat} (h : ∀ d ∈ ds, Rm d b p) : Rms ds (ds.length * (b + 1)) p := by
  induction ds with
  | nil => exact Rms.nil.mono (Nat.zero_le _) (Nat.zero_le _)
  | cons d ds ih =>
    have a := h d (List.mem_cons_self ..)
    have r := ih fun x hx => h x (List.mem_cons_of_mem _ hx)
    have l1 := a.p
    have l2 := r.p
    have l3 := a.b
    have l4 := r.b
    refine ⟨by simp only [PyData.leavesShortAll, a.l, r.l, Bool.and_self], by simp only [PyData.showableAll, a.s, r.s, Bool.and_self], ?_, ?_⟩
    · simp only [PyData.bulkAll, List.length_cons, Nat.add_mul, Nat.one_mul]
      omega
    · simp only [PyData.depthAll]
      omega
theorem Rm.lst {ds : List PyData} {b p : Nat} (h : Rms ds b p) : Rm (.list ds) b (p + 1) := ⟨by simp only [PyData.leavesShort, h.l], by simp only [PyData.showable, h.s], by simp only [PyData.bulk]; exact h.b, by
  have := h.p
  simp only [PyData.depth]
  omega⟩
theorem Rm.tup {ds : List PyData} {b p : Nat} (h : Rms ds b p) : Rm (.tuple ds) b (p + 1) := ⟨by simp only [PyData.leavesShort, h.l], by simp only [PyData.showable, h.s], by simp only [PyData.bulk]; exact h.b, by
  have := h.p
  simp only [PyData.depth]
  omega⟩
/-! ## the law's end, with what the entry's heap has -/
section
variable {P : Program} {w : World} {K : PySem.W.Frag} {mg mb : Str → Option Value} {k : Nat} {fa a : Addr} {fd : FuncData} {x : Str} {sp : Sp} {s : Shared} {vs : List Value} {ns : List Int}
end
/-! ## any value: isinstance(x, C), o == x; own errors as values -/
inductive AnyT (K : PySem.W.Frag) (H : Hp) : V → Value → Prop
  | ty {v : V} {T : String} (h : Ty H v T) : AnyT K H v (.type T)
  | ins {a C dx : Addr} {fs : List (Str × V)} (h : H a = some (.ins C dx fs)) (c : C8.InsC K C) : AnyT K H (.ref a) (.ref C)
  | err {a C : Addr} {d : Option Addr} (h : H a = some (exo a C d)) (T : ExcC K C) (hd : d = none ∨ ∃ x fs, d = some x ∧ H x = some (exd x fs)) : AnyT K H (.ref a) (.ref C)
theorem AnyT.ex {K : PySem.W.Frag} {H H' : Hp} (x : Ex H H') {v : V} {t : Value} (h : AnyT K H v t) : AnyT K H' v t := by
  cases h with
  | ty h => exact .ty (h.ex x)
  | ins h c => exact .ins (x _ _ h) c
  | err h T hd => exact .err (x _ _ h) T (hd.imp id fun ⟨y, fs, e, z⟩ => ⟨y, fs, e, x _ _ z⟩)
section
variable {X : Cx} {pins : List (Addr × Obj)} {σ : St} {H : Hp} {s : Shared}
end
section
variable {X : Cx} {j k : Nat} {W : WX} {C C' : Addr} {a b e : Expr} {es : List Expr} {tr : RA} {pos p : Pos}
end
/-! ## zip of tuples, t[::-1] -/
section
variable {X : Cx} {j : Nat} {W : WX} {e e2 st : Expr} {tr : RA} {to ts : RX} {p pos tpos : Pos} {p2 : Pos} {elts : List Expr} {kk : Nat}
end
section
open Builtin
variable {prog : Program} {w : World} {A : Around} {E : Value → Shared → Prop} {s : Shared}
end
section
variable {X : Cx} {j : Nat} {e st : Expr} {to ts : RX} {p2 pos : Pos}
end
/-! ## t + u, either of them empty -/
section
variable {X : Cx}
end
open PySem.Sem (wp)
/-! ## zip(text, list) -/
section
variable {prog : Program} {w : World} {A : Around} {E : Value → Shared → Prop} {s : Shared}
end

section
variable {prog : Program} {w : World} {A : Around} {E : Value → Shared → Prop} {s : Shared}

end
section
variable {X : Cx} {j : Nat} {e e2 : Expr} {tr : RA} {p pos tpos : Pos} {elts : List Expr} {kk : Nat}
end
/-! texts of words -/
open PySem.Sem (wp)
/-! ## zip(list, tuple) -/
section
variable {prog : Program} {w : World} {A : Around} {E : Value → Shared → Prop} {s : Shared}
end

section
variable {prog : Program} {w : World} {A : Around} {E : Value → Shared → Prop} {s : Shared}

end
section
variable {X : Cx} {j : Nat} {e e2 : Expr} {tr : RA} {p pos tpos : Pos} {elts : List Expr} {kk : Nat}
end
section
variable {X : Cx}
end
/-! ## repr of two great ints, or None -/
section
variable {prog : Program} {w : World} {A : Around} {E : Value → Shared → Prop} {s : Shared} {a : Int} {t : Tok}
open PySem.Builtin PySem.Builtin.Str PySem.Builtin.Int in
theorem call_int_repr_big {Q : Value → Shared → Prop} (hn : s.heap.NoDigits) (ha : a.natAbs < 10 ^ 4300) (h : Q (.str (toString a) s.toks) { s with toks := s.toks + 1 }) : wpAny (model prog w) A (call (.builtin "int.__repr__") [.int a t]) Q E s := by
  refine wpAny_call_entry F.slot_int_repr (typeIs_int s a t) F.entry_int_repr ?_ (F.args_int_repr_1 _)
  unfold Builtin.«int.__repr__»
  show wpAny _ _ (do let r ← Builtin.overDigitLimit? a; _) _ _ s
  refine wpAny_bind (overDigitLimit_any hn (fun hlt => ?_) (fun hge => absurd ha (Nat.not_lt.mpr hge)))
  exact wpAny_bind (wpAny_mkStr (wpAny_pure ⟨_, rfl, h⟩) (int_text_fits10 hlt))
theorem pyReprObj_big {Q : Value → Shared → Prop} (hn : s.heap.NoDigits) (ha : a.natAbs < 10 ^ 4300) (h : Q (.str (toString a) s.toks) { s with toks := s.toks + 1 }) : wpAny (model prog w) A (pyReprObj (.int a t)) Q E s := by
  have hv : [Value.int a t].any Value.onHeap = false := rfl
  unfold pyReprObj
  simp only [cRoomFor, hv, Bool.false_eq_true, if_false, pure_bind]
  refine wpAny_bind (wpAny_specialOf (name := Str.ofString "__repr__") (typeIs_int s a t) F.slot_int_repr.lookup ?_)
  refine wpAny_bind (m := callSpecialIfBound? (.int a t) (Str.ofString "__repr__")) (wpAny_callSpecialIfBound?_slot (name := Str.ofString "__repr__") (typeIs_int s a t) F.slot_int_repr (call_int_repr_big hn ha ?_))
  exact wpAny_bind (wpAny_isInstance (T := "str") (b := true) rfl isSubtype_str_str (wpAny_pure h))
theorem ReprK.big {as : List Addr} {h₀ : Heap} {d : Nat} (hn : h₀.NoDigits) (ha : a.natAbs < 10 ^ 4300) : ReprK prog w as h₀ d (.int a t) (toString a) := by
  intro base hb A g E s Q hg hcl hu hk hQ
  have hn' : base ≤ sizeLine := by omega
  rw [pyReprUnder_leaf (v := .int a t) hn' (fun _ e => nomatch e)]
  unfold pyRepr
  exact wpAny_bind (pyReprObj_big (hn.keeps hk) ha (wpAny_pure (hQ s.heap _ fun _ _ e => e)))
end
section
variable {X : Cx} {j : Nat} {W : WX} {k : Nat} {H : Hp} {v : V} {d : PyData} {e : Expr} {es : List Expr} {tr : RA} {pos p : Pos}
end
/-! ## name = {k: v for ..} on one line -/
section
variable {X : Cx}
end
section
variable {X : Cx} {j : Nat} {W : WX} {e : Expr} {σ : St} {H H1 : Hp} {Q : VK} {pos p : Pos} {t to : RX} {tc : RT} {g : RG} {tg iter : Expr} {w : World}
end
/-! ## dicts from ints to ints or None, compared -/
section
variable {X : Cx}
end
/-! ## methods with keyword-only parameters that have no defaults -/
structure DefMO (K : PySem.W.Frag) (C : Addr) (m qual : Str) (st : Stmt) (ps : List Str) : Type where
  f : Addr
  fd : FuncData
  F : Fun K m qual st f fd
  mt : Meth K C m f
section
variable {P : Program} {w : World} {K : PySem.W.Frag} {mg : Str → Option Value} {base : Heap} {n m qual : Str} {st : Stmt} {ps N : List Str} {k : Nat} {zs : RS} {C : Addr}
theorem DefMO.rfng (d : DefMO K C m qual st ps) (S : FnScope N ps (defScope st)) (hb : Body P w K mg base N qual st d.f k zs) : FnG P w K mg base (k + 1) d.f d.fd ps (rFn ps.length N zs) :=
  fng_of d.F S (fun vs H Q E h => h.1) fun cd A outer s H1 E1 W vs H Q E c o hW h => by
    have c2 : Cn (fx P w K mg base N qual st d.f cd A outer s H1 E1) (upW fun c d _ H' => E c d H') k := ⟨c.room, c.un, c.gd, c.tk.imp fun c0 d0 σ0 H0 ⟨H2, x2, q⟩ => c.wu _ _ _ _ _ (hW _ _ _ _ q) x2, fun c d σ H H' ⟨H2, x2, q⟩ x => ⟨H2, x2.trans x, q⟩⟩
    exact ((hb cd A outer s H1 E1).run c2 o h.2).le rfn_ends
theorem DefMO.kw {sp : Sp} (d : DefMO K C m qual st ps) (n : Nat) (ks : List Str) (g : {α : Type} → List α → List α → List α) (hrel : ∀ {vs zs : List V} {us ws : List Value}, Vals vs us → Vals zs ws → Vals (g vs zs) (g us ws))
    (hb : ∀ (kV doc pm : Value) (an : Option Addr) (cdv ct : Value) (us ws : List Value), us.length = n → ws.length = ks.length → bindArgs (PySem.W.fnOf m qual (defArgs st) (defBody st) (defScope st) .none kV doc pm an cdv ct) ⟨us, ks.zip ws⟩ = pure (ps.zip (g us ws)))
    (F : FnG P w K mg base k d.f d.fd ps sp) : CalMK P w K mg base C m k n ks g sp := by
  obtain ⟨oc2, od2, kV, doc, pm, an, cd, ct, osl2, e, lk2, _⟩ := d.F.ex
  refine ⟨d.f, d.fd, ps, g, F, d.mt, ⟨fun s us ws X l1 l2 => ?_, fun r1 r2 => hrel r1 r2⟩⟩
  rw [e]
  exact .of_eq (hb kV doc pm an cd ct us ws l1 l2)
end
/-! ## sorted(set(xs)), xs a list of ints (the road of tuples, HandS.SetFor, turned to lists) -/
section
variable {P : Program} {w : World} {A : Around} {E : Value → Shared → Prop} {s : Shared}
end
section
variable {X : Cx} {j : Nat} {e : Expr} {es : List Expr} {σ : St} {H H1 : Hp} {Q : VK} {pos p p2 pos2 : Pos} {tr : RA}
end
/-! ## dicts that may be locked: they are read alike -/
section
variable {X : Cx} {j : Nat} {W : WX} {o i : Expr} {σ : St} {H H1 : Hp} {Q : VK} {pos : Pos} {to ti : RX}
end
open LamX (CodeO TabS Tabs ExtN TabB)
/-! ## sorted(range(a, b), ..) -/
namespace LR
section
variable {prog : Program} {w : World} {A : Around} {E : Value → Shared → Prop} {s : Shared} {r : Addr} {a b c : Int} {t u v : Tok} {n : Nat}
theorem collect_rangeB {Q : List Value → Shared → Prop} (hh : A.handled = none) (hr : IsRange s.heap r a b c t u v) (hn : Builtin.Range.rangeSize a b c = n) (hlen : n ≤ 2 ^ 24)
    (hQ : ∀ (h' : Heap) (tk : Nat) (acc : Array Value), (∀ b o, s.heap.get? b = some o → h'.get? b = some o) → ItemsOf (fun i v => ∃ t, v = .int (a + i * c) t) acc n → Q acc.toList { s with heap := h', toks := tk }) :
    wpAny (model prog w) A (collect (.ref r)) Q E s := by
  cases hs : Builtin.Range.small a b c with
  | true => exact L2.collect_range hh hr hs hn hlen hQ
  | false =>
    unfold collect
    refine wpAny_bind (wpAny_runValue (codeAny_builtin F.entry_proto_collect ?_))
    rw [Around.under_plainId F.plain_proto_collect _]
    show wpAny _ A.in1 (newList [] >>= fun l => again (.builtin "list.__iadd__" ⟨[l, .ref r], []⟩)) _ _ s
    refine wpAny_bind (wpAny_newObj_type ?_)
    refine wpAny_pure ⟨plainId_quiet F.plain_list_iadd _, codeAny_builtin F.entry_list_iadd ?_⟩
    rw [Around.under_plainId F.plain_list_iadd _]
    show wpAny _ A.in1 (Builtin.List.listExtendWith (.ref s.heap.objs.size) (.ref r) (.ref s.heap.objs.size)) _ _ _
    have hS : (s.heap.push { cls := .type "list", data := .seq ([] : List Value).toArray }).get? s.heap.objs.size = some { cls := .type "list", data := .seq #[] 0 } := Heap.get?_push_size _ rfl
    refine wpAny_mono (extend_range (A := A) (R := fun rr s' => rr = .ok (.ret (.ref s.heap.objs.size)) ∧ ∃ (h' : Heap) (tk : Nat) (acc : Array Value) (c' : Nat), s' = { s with heap := h', toks := tk } ∧
        (∀ b o, s.heap.get? b = some o → h'.get? b = some o) ∧ h'.get? s.heap.objs.size = some { cls := .type "list", dict := none, data := .seq acc c', slots := #[] } ∧ ItemsOf (fun i v => ∃ t, v = .int (a + i * c) t) acc n)
      (s := { s with heap := s.heap.push { cls := .type "list", data := .seq ([] : List Value).toArray } }) hh (Heap.get?_push_of_some _ hr) hs hn hlen _ _ 0 hS
      (fun h' tk acc c' hk e hi => ⟨rfl, h', tk, acc, c', rfl, fun b o q => hk b o (Nat.ne_of_lt (Heap.lt_size q)) (Heap.get?_push_of_some _ q), e, hi⟩)) (fun fin s' h => ?_) (fun e s' h => ?_)
    · cases fin with
      | done f =>
        obtain ⟨e, h', tk, acc, c', rfl, hk, hS', hi⟩ := h
        cases e
        show wpAny _ A (load s.heap.objs.size >>= _) _ _ _
        exact wpAny_bind (wpAny_load hS' (wpAny_pure (hQ h' tk acc hk hi)))
      | again c' =>
        refine ⟨h.1, codeAny_mono h.2 fun rr s'' hr' => ?_⟩
        obtain ⟨rfl, h', tk, acc, c', rfl, hk, hS', hi⟩ := hr'
        show wpAny _ A (load s.heap.objs.size >>= _) _ _ _
        exact wpAny_bind (wpAny_load hS' (wpAny_pure (hQ h' tk acc hk hi)))
    · exact absurd h.1 (by simp)
theorem sorted_of_range {kw : List (Str × Value)} {Q : Value → Shared → Prop} (hh : A.in1.handled = none) (hr : IsRange s.heap r a b c t u v) (hn : Builtin.Range.rangeSize a b c = n) (hlen : n ≤ 100000) (ha1 : argsOk "sorted" ⟨[.ref r], kw⟩) (ha2 : ∀ x, argsOk "list.sort" ⟨[.ref x], kw⟩)
    (body : ∀ (h' : Heap) (tk : Nat) (acc : Array Value) (E' : Value → Shared → Prop), (∀ b o, s.heap.get? b = some o → h'.get? b = some o) → ItemsOf (fun i v => ∃ t, v = .int (a + i * c) t) acc n →
      wpAny (model prog w) A.in1.in1 (Builtin.«list.sort» ⟨[.ref h'.objs.size], kw⟩) (fun f s' => f = .done (.ret .none) ∧ Q (.ref h'.objs.size) s') E' { s with heap := h'.push (seqObj "list" acc.toList.toArray 0), toks := tk }) :
    wpAny (model prog w) A (call (.builtin "sorted") [.ref r] kw) Q E s := by
  refine call_function_entry_kw kind_sorted plain_sorted entry_sorted ha1 ?_
  unfold Builtin.«sorted»
  refine wpAny_bind (m := checkCount "sorted" 1 1 _) (wpAny_pure ?_)
  refine wpAny_bind (collect_rangeB hh hr hn (by omega) fun h' tk acc hk hi => ?_)
  have hL : acc.toList.length ≤ sizeLine := by rw [Array.length_toList, hi.1, sizeLine_eq]; omega
  refine wpAny_bind (wpAny_newList ?_ hL)
  refine wpAny_bind (wpAny_holding (wpAny_call_entry_kw PyProof.Rows.slot_list_sort ⟨_, Heap.get?_push_size _ rfl, rfl⟩ PyProof.Rows.entry_list_sort ?body (ha2 _)))
  case body =>
    refine wpAny_mono (body h' tk acc _ hk hi) (fun f s' hf => ?_) fun _ _ e => e
    obtain ⟨rfl, hq⟩ := hf
    exact ⟨_, rfl, wpAny_pure ⟨_, rfl, hq⟩⟩
end
end LR
section
open PySem.W (AllAlike Sortable KeyedOut EachIs keyedOut_each dataLe)
variable {X : Cx} {pins : List (Addr × Obj)} {σ : St} {H H1 : Hp} {s : Shared} {f : Value} {b : Bool}
/-- sorted(range(i, j), key=f, ..) at the values -/
theorem sortedRI {r : Addr} {i j : Int} {t u v : Tok} {kw : List (Str × Value)} {Q : VK} (k : V → PyData) (I : Inv X pins σ H1 s) (x : Ex H H1) (hh : X.A.in1.handled = none) (hr : IsRange s.heap r i j 1 t u v) (hz : j - i ≤ 100000) (hal : AllAlike ((rgV i j).map k)) (hsk : Sortable ((rgV i j).map k))
    (hu : ∀ v ∈ rgV i j, X.A.units + 2 + (k v).depth < cLine)
    (ha1 : argsOk "sorted" ⟨[.ref r], kw⟩) (ha2 : ∀ x, argsOk "list.sort" ⟨[.ref x], kw⟩) (ht : ∀ x, Builtin.«list.sort» ⟨[.ref x], kw⟩ = ksk_tree x f b)
    (turn : ∀ v u, v ∈ rgV i j → RelV v u → ∀ pins' s' H', Inv X pins' σ H' s' → Ex H H' → wpAny (model X.prog X.w) X.A.in1.in1 (call f [u]) (fun r s'' => ∃ y H'', Inv X pins' σ H'' s'' ∧ Ex H' H'' ∧ RelV y r ∧ Dp X.K H'' y (k v)) (fun _ _ => False) s')
    (q : ∀ p H', Ex H H' → H' p = none → Q (.ref p) (upd H' p (.lst ((rgV i j).mergeSort (dataLe b k))))) : wpAny (model X.prog X.w) X.A (call (.builtin "sorted") [.ref r] kw) (EP X pins σ (up Q)) X.xe s := by
  refine LR.sorted_of_range (n := (j - i).toNat) hh hr (rangeSize_nat i j) (by omega) ha1 ha2 fun h1 tk acc E' hk hi => ?_
  rw [ht]
  have rv : Vals (rgV i j) acc.toList := vals_rg hi
  have ev : ∀ {xs : List V} {us : List Value}, Vals xs us → EachIs (fun u v => RelV v u) us xs := fun {xs us} r => by
    induction r with
    | nil => exact .nil
    | cons h _ ih => exact .cons h ih
  have e := ev rv
  have hlen : acc.toList.length = (rgV i j).length := rv.length.symm
  have hsl : (rgV i j).length ≤ sizeLine := by rw [rgV_length, sizeLine_eq]; omega
  have I0 : Inv X pins σ H1 { s with heap := h1, toks := tk } := I.kept hk
  have hfa : H1 h1.objs.size = none := I0.hok.fresh (Nat.le_refl _)
  have I1 : Inv X pins σ H1 { s with heap := h1.push (seqObj "list" acc.toList.toArray 0), toks := tk } := I.kept fun b o e => Heap.get?_push_of_some _ (hk b o e)
  refine keyI_tree (b := b) (kz := (rgV i j).map k) (P := fun f s' => f = .done (.ret .none) ∧ EP X pins σ (up Q) (.ref h1.objs.size) s') (s0 := { s with heap := h1, toks := tk }) I1 (Nat.le_refl _) I0 (Nat.le_of_lt (Heap.lt_size (Heap.get?_push_size _ rfl))) (Heap.get?_push_size _ rfl) hfa (by rw [List.length_map]; exact hlen.symm) (by rw [hlen]; exact hsl) hal hsk (fun d hd => ?_) (fun i0 u d hu' hd pins' s' H' I' x' => ?_) fun s' H' out c I' x' n' g' ko => ⟨rfl, ?_⟩
  · obtain ⟨v, hv, rfl⟩ := List.mem_map.mp hd
    exact hu v hv
  · rw [List.getElem?_map] at hd
    cases q1 : (rgV i j)[i0]? with
    | none => rw [q1] at hd; simp at hd
    | some v =>
      rw [q1] at hd
      have hd' : some (k v) = some d := hd
      rw [← Option.some.inj hd']
      have hz : (u, v) ∈ acc.toList.zip (rgV i j) := List.mem_of_getElem? (i := i0) (by rw [List.getElem?_zip_eq_some]; exact ⟨hu', q1⟩)
      exact turn v u (List.mem_of_getElem? q1) (e.zip _ hz) pins' s' H' I' (x.trans x')
  · have eo := keyedOut_each k ko e
    have bv : ∀ {xs : List V} {us : List Value}, EachIs (fun u v => RelV v u) us xs → Vals xs us := fun {xs us} r => by
      induction r with
      | nil => exact .nil
      | cons h _ ih => exact .cons h ih
    have vo := bv eo
    obtain ⟨G, g1, g2⟩ := restrict s'.heap fun b => decide (b ≠ h1.objs.size)
    have I2 : Inv X pins σ H' { s' with heap := G } := I'.turnedL (t' := s'.toks) (ch := [h1.objs.size]) (fun b o hb e => by
      simp at hb
      rw [g1 b (decide_eq_true hb)]
      exact e) fun b hb => by
      simp at hb
      subst hb
      exact I0.fpOk (Nat.le_refl _) n'
    have I3 : Inv X pins σ (upd H' h1.objs.size (.lst ((rgV i j).mergeSort (dataLe b k)))) s' := I2.laidN (h' := s'.heap) (t' := s'.toks) (fun b u e => by
      by_cases z : b = h1.objs.size
      · subst z; rw [g2 _ (decide_eq_false fun z => z rfl)] at e; cases e
      · rw [g1 b (decide_eq_true z)] at e; exact e) (g2 _ (decide_eq_false fun z => z rfl)) n' ⟨by rw [List.length_mergeSort]; exact hsl, _, c, vo, g'⟩
    exact ⟨.ref _, _, I3, rfl, _, Ex.refl _, q _ _ (x.trans x') n'⟩
end
/-! ## a lambda of one parameter without captured names -/
/-- its object at f, its code object at c' -/
def LamO (f : Addr) (q : Str) (params : Arguments) (body : Expr) (scope : Scope) (c' : Addr) : HO := .ext fun h => ∃ pm ctv : Value, h.get? f = some (PySem.W.kla_obj "<lambda>" q params body scope [] pm c' ctv)
section
variable {X : Cx} {σ : St} {H : Hp} {Q : VK}
theorem we_lam {T : List (Addr × Str)} {c P : Addr} {params : Arguments} {body : Expr} {scope : Scope} {pos : Pos} (TB : TabB X.base X.mg c P) (hcode : X.env.code = .ref c) (hm : (P, X.env.qual ++ "<lambda>") ∈ T) (hu : ∀ p ∈ T, p.1 = P → p.2 = X.env.qual ++ "<lambda>")
    (hdef : defaultsOf params X.env = ([], [])) (hcl : cloFrom X.env.cells scope.names [] = []) (hfree : ∀ y ∈ scope.names, y.2 ≠ .free) (hT : Tabs T H)
    (h : ∀ f c' H', ExtN H H' → Tabs T H' → H' f = some (LamO f (X.env.qual ++ "<lambda>") params body scope c') → H' c' = some (CodeO c' (X.env.qual ++ "<lambda>")) → Q (.ref f) H') : WE X (.Lambda params body scope pos) σ H Q := by
  intro H1 x pins s I
  have hT1 : Tabs T H1 := hT.ext x
  obtain ⟨ps, hP, ht, ha⟩ := hT1 _ hm
  have cl : closureFor scope X.env = pure [] := by
    have z := closure_ok (env := X.env) (scope := scope) (fun y hy e => absurd e (hfree y hy))
    rw [hcl] at z
    exact z
  refine PySem.W.kla_eval hdef ?_
  have bP : s.heap.BuiltinsAt X.mg P := TB.bm.keeps I.bk
  have hP' : s.heap.get? P = some { cls := .none, data := .fields ps } := I.hok P _ hP
  have fin : ∀ {H2 : Hp} {h2 : Heap} {tk : Nat} {c' : Addr} {pm ctv : Value}, Inv X pins σ H2 { s with heap := h2, toks := tk } → ExtN H1 H2 → Tabs T H2 → H2 c' = some (CodeO c' (X.env.qual ++ "<lambda>")) →
      EP X pins σ (up Q) (.ref h2.objs.size) { s with heap := h2.push (PySem.W.kla_obj "<lambda>" (X.env.qual ++ "<lambda>") params body scope [] pm c' ctv), toks := tk } := by
    intro H2 h2 tk c' pm ctv I2 eN T2 hco
    have nf : H2 h2.objs.size = none := I2.hok.fresh (Nat.le_refl _)
    have I3 : Inv X pins σ (upd H2 h2.objs.size (LamO h2.objs.size (X.env.qual ++ "<lambda>") params body scope c')) { s with heap := h2.push (PySem.W.kla_obj "<lambda>" (X.env.qual ++ "<lambda>") params body scope [] pm c' ctv), toks := tk } :=
      I2.laidN (fun b u e => Heap.get?_push_of_some _ e) (Heap.get?_none_of_le (Nat.le_refl _)) nf ⟨⟨pm, ctv, Heap.get?_push_size _ rfl⟩, ⟨_, Heap.get?_push_size _ rfl⟩, fun g1 g2 ⟨pm, ctv, e⟩ st => ⟨pm, ctv, st _ e⟩⟩
    have x3 : Ex H2 (upd H2 h2.objs.size (LamO h2.objs.size (X.env.qual ++ "<lambda>") params body scope c')) := Ex.put nf
    exact ⟨.ref _, _, I3, rfl, _, Ex.refl _, h _ c' _ (((ExtN.of x).trans eN).trans (.of x3)) (T2.ext x3) upd_same (x3 _ _ hco)⟩
  cases hc : codeAmong pos ps.toList with
  | none =>
    refine PySem.W.kla_makeFunction (mg := X.mg) (c := c) (P := P) (ps := ps) cl I.ok.glob (I.mod.glob.keeps I.bk) hcode (TB.code.keeps I.bk) hP' ht hc TB.gP bP fun c' ctv h' tk hx hge hlt hrec htb => ?_
    obtain ⟨c2, oc, vs, t, e2, hoc, hd, hv⟩ := hrec
    cases e2
    have nC : H1 c' = none := I.hok.fresh hge
    have I1 := LamX.inv_table (t' := tk) (more := #[rawInt pos.line, rawInt pos.col, .ref c']) (h' := h') I hP (fun b o hb e => hx b o hb e) htb hge ⟨oc, vs, t, hoc, hd, hv⟩
    have hE : ExtN H1 (upd (upd H1 P (.tbl (ps ++ #[rawInt pos.line, rawInt pos.col, .ref c']))) c' (CodeO c' (X.env.qual ++ "<lambda>"))) := fun b o e n => by
      rw [upd_ne (ne_of_none e nC), upd_ne (fun z => n ps (Option.some.inj (e.symm.trans (by rw [z]; exact hP))))]
      exact e
    have eL : (ps ++ #[rawInt pos.line, rawInt pos.col, .ref c']).toList = ps.toList ++ [rawInt pos.line, rawInt pos.col, .ref c'] := by simp
    refine fin I1 hE (fun p hp => ?_) upd_same
    by_cases hb : p.1 = P
    · rw [hu p hp hb, hb]
      refine ⟨_, by rw [upd_ne (ne_of_none hP nC), upd_same], by rw [eL]; exact PySem.TriplesOk_snoc _ _ _ _ ht, fun p' cv hcv => ?_⟩
      rw [eL] at hcv
      rcases LamX.among_app _ ht hcv with z | z
      · obtain ⟨c0, e1, e2⟩ := ha p' cv z
        exact ⟨c0, e1, hE _ _ e2 LamX.codeO_ne⟩
      · exact ⟨c', z, upd_same⟩
    · obtain ⟨ps', a1, a2, a3⟩ := hT1 p hp
      refine ⟨ps', by rw [upd_ne (ne_of_none a1 nC), upd_ne hb]; exact a1, a2, fun p' cv hcv => ?_⟩
      obtain ⟨c0, e1, e2⟩ := a3 p' cv hcv
      exact ⟨c0, e1, hE _ _ e2 LamX.codeO_ne⟩
  | some cv =>
    obtain ⟨c', e, hco⟩ := ha pos cv hc
    subst e
    refine PySem.W.kla_makeFunctionHit (mg := X.mg) (c := c) (P := P) (ps := ps) cl I.ok.glob (I.mod.glob.keeps I.bk) hcode (TB.code.keeps I.bk) hP' ht hc bP fun ctv h' tk hx hsz => ?_
    exact fin (I.kept hx) (ExtN.refl H1) hT1 hco
end
/-- the context of its body -/
abbrev lx (P : Program) (w : World) (K : PySem.W.Frag) (mg : Str → Option Value) (base : Heap) (N : List Str) (q : Str) (scope : Scope) (f c' : Addr) (A : Around) (outer : List Env) (s : Shared) (H : Hp) (E : XK) : Cx :=
  cxOf (L2.CX P w) P w K mg base N q scope f (.ref c') A outer s H E
section
variable {X : Cx} {pins : List (Addr × Obj)} {σ : St} {H : Hp} {s : Shared} {k : Nat}
theorem run_lam {A : Around} {f c' : Addr} {u : Value} {v : V} {d : PyData} {N : List Str} {x q : Str} {params : Arguments} {body : Expr} {scope : Scope} {rb : RX} (S : FnScope N [x] scope) (hbind : ∀ pm ctv : Value, bindArgs (PySem.W.kla_fn "<lambda>" q params body scope [] pm (.ref c') ctv) ⟨[u], []⟩ = pure [(x, u)])
    (hb : ∀ (A : Around) (outer : List Env) (s : Shared) (H : Hp) (E : XK), SX (lx X.prog X.w X.K X.mg X.base N q scope f c' A outer s H E) k rb body)
    (hr : Room (k + 1) A) (hg : A.guards = some []) (hf : A.frames = X.A.frames) (I : Inv X pins σ H s) (r : RelV v u) (hL : H f = some (LamO f q params body scope c')) (hC : H c' = some (CodeO c' q))
    (h : rb (start N [v]) H (fun y H' => Ex H H' ∧ Dp X.K H' y d) fun _ _ _ _ => False) : wpAny (model X.prog X.w) A (call (.ref f) [u]) (fun r s'' => ∃ y H'', Inv X pins σ H'' s'' ∧ Ex H H'' ∧ RelV y r ∧ Dp X.K H'' y d) (fun _ _ => False) s := by
  have e0 : Env0 X.prog X.w X.K X.mg X.base A X.stack s H := by
    have e := I.env0
    exact ⟨by rw [hf]; exact e.frames, e.mod, e.bs, e.bsz, e.funs, e.frf, e.hok, e.bare⟩
  obtain ⟨⟨pm, ctv, ho⟩, _, _⟩ := I.hok f _ hL
  obtain ⟨⟨oc, vs, t, hoc, hdc, hvc⟩, _, _⟩ := I.hok c' _ hC
  have kinds : ∀ y ∈ [x].zip [u], scope.names.lookup y.1 = some .local ∨ (scope.names.lookup y.1 = some .cell ∧ ((cellsFrom (s.heap.objs.size + 1) scope.names []).lookup y.1).isSome = true) := by
    rintro ⟨n, v⟩ hy
    rcases S.par n (List.of_mem_zip hy).1 with q | q
    · exact .inl q
    · exact .inr ⟨q, PySem.W.cellsFrom_some _ _ _ (.inl q)⟩
  have rc : codeAny (model X.prog X.w) A (.call (.ref f) ⟨[u], []⟩) (CR (L2.CX X.prog X.w) X.stack X.prog X.w H s (up fun y H' => Ex H H' ∧ Dp X.K H' y d) (upE fun _ _ _ => False)) s := by
    refine PySem.W.kla_callFunE hr.depth ho rfl S.co S.gen rfl ⟨c', oc, vs, t, rfl, hoc, hdc, hvc⟩ ?_
    rw [hbind]
    refine wpAny_pure (wpAny_newFunctionEnv_cells S.kind kinds fun env he s1 x1 => ?_)
    subst he
    refine ⟨(e0.mod.nolimit.keeps fun b o e => (e0.bs b o e).1).keeps x1.toInCall.keep, PySem.W.kla_codeExpr ?_⟩
    have I1 := inv_start (CX := L2.CX X.prog X.w) (E := upE fun _ _ _ => False) (f := f) (cd := .ref c') S hr.hd e0 (vs := [v]) rfl (.cons r .nil) x1
    have c : Cn (lx X.prog X.w X.K X.mg X.base N q scope f c' A X.stack s H (upE fun _ _ _ => False)) (upW fun _ _ _ _ => False) k :=
      ⟨fun _ => hr.deeper _, (hr.deeper _).un, hg, (takes_of (E := upE fun _ _ _ => False) rfl rfl rfl rfl).imp fun _ _ _ _ z => z, fun c d σ H H' ⟨H2, x2, q⟩ x3 => ⟨H2, x2.trans x3, q⟩⟩
    refine wpAny_mono ((hb A X.stack s H (upE fun _ _ _ => False)).run c h H (Ex.refl H) [] s1 I1) (fun r2 s' q => ?_) fun e s' q => q
    obtain ⟨y, H', J, ry, q⟩ := q
    exact ⟨y, H', J.os, J.bare, J.base, J.hok, ry, q⟩
  refine wpAny_call (codeAny_mono rc fun res s' q => ?_)
  rcases res with er | fl
  · obtain ⟨_, _, _, _, _, _, _, _, _, _, _, _, _, _, _, _, w⟩ := (XE.of_call (W := fun _ _ _ _ => False) I (fun cl d H' ⟨H2, x2, q2⟩ => q2.elim) q)
    exact w.elim
  · cases fl with
    | ret u =>
      obtain ⟨y, H', I', ry, H2, x2, x3, hd⟩ := I.after q
      exact ⟨y, H', I', x3.trans x2, ry, Dp.ex x2 hd⟩
    | _ => exact q.elim
end
/-! ## a range as a value -/
def RngO (r : Addr) (i j : Int) : HO := .ext fun h => ∃ t u v, IsRange h r i j 1 t u v
section
variable {X : Cx} {j : Nat} {a b : Expr} {ta tb : RX} {p pos : Pos} {σ : St} {H : Hp} {Q : VK}
theorem we_rngO (hg : Gl X "range") (hm : X.mg "range" = none) (h : WE X a σ H fun x H1 => WE X b σ H1 fun y H2 => ∃ i j, x = .int i ∧ y = .int j ∧ ∀ r H3, Ex H2 H3 → H3 r = some (RngO r i j) → Q (.ref r) H3) (na : starEach [a, b] X.env = (false, eval a X.env) :: starEach [b] X.env := by rfl)
    (nb : starEach [b] X.env = (false, eval b X.env) :: starEach [] X.env := by rfl) (hp : (backTo pos (starEach [b] X.env)).any (·.1) = false := by rfl) : WE X (.Call (.Name "range" p) [a, b] [] pos) σ H Q := by
  intro H1 x1 pins s I
  refine Call_ (ld_blt I hg hm boot_range (PyProof.Rows.callWith_type1 (args_cons (thn (h H1 x1 pins s I) fun v s1 ⟨x, H2, I1, r1, H3, x3, w⟩ => args_cons (thn (w H2 x3 pins s1 I1) fun u s2 ⟨y, H4, I2, r2, H5, x5, i, j, ex, ey, q⟩ => args_nil ?_) nb) na) na hp))
  subst ex ey
  obtain ⟨t, rfl⟩ := r1
  obtain ⟨t', rfl⟩ := r2
  have nf : H4 s2.heap.objs.size = none := I2.hok.fresh (Nat.le_refl _)
  refine call_range_2 ⟨.ref _, _, I2.laidN (o := RngO s2.heap.objs.size i j) (fun b u e => Heap.get?_push_of_some _ e) (Heap.get?_none_of_le (Nat.le_refl _)) nf ⟨⟨_, _, _, IsRange.new _ _ _ _ _ _ _⟩, ⟨_, Heap.get?_push_size _ rfl⟩, fun g1 g2 ⟨t, u, v, e⟩ st => ⟨t, u, v, st _ e⟩⟩, rfl, _, Ex.refl _, q _ _ (x5.trans (Ex.put nf)) upd_same⟩
end
/-! ## sorted(range(a, b), key=lambda x: body, reverse=True) -/
def rLam (T : List (Addr × Str)) (q : Str) (params : Arguments) (body : Expr) (scope : Scope) : RX := fun _ H Q _ => Tabs T H ∧ ∀ f c' H', ExtN H H' → Tabs T H' → H' f = some (LamO f q params body scope c') → H' c' = some (CodeO c' q) → Q (.ref f) H'
def rSortLam (K : PySem.W.Frag) (N : List Str) (q : Str) (params : Arguments) (body : Expr) (scope : Scope) (rb ta tb : RX) (tk : RA) : RX := fun σ H Q W =>
  ta σ H (fun x H1 => tb σ H1 (fun y H2 => ∃ i j, x = .int i ∧ y = .int j ∧ j - i ≤ 100000 ∧ ∀ r H3, Ex H2 H3 → H3 r = some (RngO r i j) → tk σ H3 (fun zs H4 => ∃ (f c' : Addr), zs = [.ref f, .bl true] ∧ H4 r = some (RngO r i j) ∧ H4 f = some (LamO f q params body scope c') ∧ H4 c' = some (CodeO c' q) ∧
    ∃ k : V → PyData, PySem.W.AllAlike ((rgV i j).map k) ∧ PySem.W.Sortable ((rgV i j).map k) ∧ (∀ v ∈ rgV i j, (k v).depth ≤ 20) ∧ (∀ v ∈ rgV i j, ∀ H', Ex H4 H' → rb (start N [v]) H' (fun y H'' => Ex H' H'' ∧ Dp K H'' y (k v)) fun _ _ _ _ => False) ∧
    ∀ p H', Ex H4 H' → H' p = none → Q (.ref p) (upd H' p (.lst ((rgV i j).mergeSort (PySem.W.dataLe true k))))) W) W) W
section
variable {X : Cx} {j k : Nat} {a b : Expr} {ta tb rb : RX} {tk : RA} {kws : List Keyword} {p p2 pos pos2 : Pos} {T : List (Addr × Str)} {c P : Addr} {params : Arguments} {body : Expr} {scope : Scope} {N : List Str} {x q : Str}
theorem s_lam (TB : TabB X.base X.mg c P) (hcode : X.env.code = .ref c) (hm : (P, X.env.qual ++ "<lambda>") ∈ T) (hu : ∀ p ∈ T, p.1 = P → p.2 = X.env.qual ++ "<lambda>") (hdef : defaultsOf params X.env = ([], []) := by rfl) (hcl : cloFrom X.env.cells scope.names [] = [] := by rfl) (hfree : ∀ y ∈ scope.names, y.2 ≠ .free := by decide) :
    SX X j (rLam T (X.env.qual ++ "<lambda>") params body scope) (.Lambda params body scope pos) := ⟨fun _ _ _ _ ⟨hT, h⟩ => we_lam TB hcode hm hu hdef hcl hfree hT h⟩
theorem s_sortLam (hm : X.mg "sorted" = none) (hr : X.mg "range" = none) (ha : SX X j ta a) (hb : SX X j tb b) (S : FnScope N [x] scope) (hbind : ∀ (pm cv ctv u : Value), bindArgs (PySem.W.kla_fn "<lambda>" q params body scope [] pm cv ctv) ⟨[u], []⟩ = pure [(x, u)])
    (hbody : ∀ (f c' : Addr) (A : Around) (outer : List Env) (s : Shared) (H : Hp) (E : XK), SX (lx X.prog X.w X.K X.mg X.base N q scope f c' A outer s H E) k rb body) (hk : SK X j tk kws) (hkj : k + 3 ≤ j := by decide) (hcm : X.calm = true := by rfl) (hg : Gl X "sorted" := by rfl) (hg2 : Gl X "range" := by rfl)
    (na : starEach [a, b] X.env = (false, eval a X.env) :: starEach [b] X.env := by rfl) (nb : starEach [b] X.env = (false, eval b X.env) :: starEach [] X.env := by rfl) (hp : (backTo pos2 (starEach [b] X.env)).any (·.1) = false := by rfl)
    (he : backTo pos (starEach [.Call (.Name "range" p2) [a, b] [] pos2] X.env) = (false, eval (.Call (.Name "range" p2) [a, b] [] pos2) X.env) :: backTo pos (starEach [] X.env) := by rfl) (hpl : (backTo pos (starEach [.Call (.Name "range" p2) [a, b] [] pos2] X.env)).any (·.1) = false := by rfl)
    (he2 : starEach [.Call (.Name "range" p2) [a, b] [] pos2] X.env = (false, eval (.Call (.Name "range" p2) [a, b] [] pos2) X.env) :: starEach [] X.env := by rfl)
    (hall : (backToKw pos (keywordEach kws X.env)).all (·.1.isSome) = true := by rfl) (hnone : (backToKw pos (keywordEach kws X.env)).any (·.1.isNone) = false := by rfl) (hks : (backToKw pos (keywordEach kws X.env)).filterMap (·.1) = [Str.ofString "key", Str.ofString "reverse"] := by rfl) :
    SX X j (rSortLam X.K N q params body scope rb ta tb tk) (.Call (.Name "sorted" p) [.Call (.Name "range" p2) [a, b] [] pos2] kws pos) := by
  refine ⟨fun cn σ H Q h H1 x1 pins s I => ?_⟩
  have w1 : WE X (.Call (.Name "range" p2) [a, b] [] pos2) σ H (fun u H3 => ∃ (r : Addr) (i j : Int), u = .ref r ∧ j - i ≤ 100000 ∧ H3 r = some (RngO r i j) ∧ ∃ h : _, WK X kws σ H3 h ∧ ∀ zs H4, h zs H4 → ∃ (f c' : Addr), zs = [.ref f, .bl true] ∧ H4 r = some (RngO r i j) ∧ H4 f = some (LamO f q params body scope c') ∧ H4 c' = some (CodeO c' q) ∧
      ∃ k : V → PyData, PySem.W.AllAlike ((rgV i j).map k) ∧ PySem.W.Sortable ((rgV i j).map k) ∧ (∀ v ∈ rgV i j, (k v).depth ≤ 20) ∧ (∀ v ∈ rgV i j, ∀ H', Ex H4 H' → rb (start N [v]) H' (fun y H'' => Ex H' H'' ∧ Dp X.K H'' y (k v)) fun _ _ _ _ => False) ∧
      ∀ p H', Ex H4 H' → H' p = none → Q (.ref p) (upd H' p (.lst ((rgV i j).mergeSort (PySem.W.dataLe true k))))) :=
    we_rngO hg2 hr ((ha.run cn h).mono fun x H5 h5 => (hb.run cn h5).mono fun y H6 ⟨i, j, e1, e2, hz, h6⟩ => ⟨i, j, e1, e2, fun r H7 x7 h7 => ⟨r, i, j, rfl, hz, h7, _, hk.run cn (h6 r H7 x7 h7), fun zs H8 h8 => h8⟩⟩) na nb hp
  refine wpAny_Call_Name_kw (ld_blt I hg hm PyProof.Rows.boot_sorted ?_ (by decide) (by decide))
  refine PyProof.Rows.callWith_kw (PyProof.Rows.args_cons (thn (w1 H1 x1 pins s I) fun u s1 ⟨y, H2, I2, ry, H3, x3, r, i, j, ey, hz, hro, hh, wk, hq⟩ => PyProof.Rows.args_nil ?_) he2) he hpl hall hnone
  refine thn (wk H2 x3 pos pins s1 I2) fun ws s2 ⟨zs, H4, I4, rz, H5, x5, q5⟩ => ?_
  obtain ⟨f, c', ez, hr4, hf4, hc4, kk, hal, hsk, hdp, ht, q9⟩ := hq zs H5 q5
  subst ez ey
  obtain rfl : u = Value.ref r := ry
  cases rz with
  | cons r0 r1 =>
    cases r1 with
    | cons r2 r3 =>
      cases r3
      cases r0
      cases r2
      rw [hks]
      have rm := ((cn.mono hkj).room hcm)
      obtain ⟨⟨t, u, v, hrg⟩, _, _⟩ := I4.hok r _ (x5 _ _ hr4)
      refine sortedRI (b := true) (f := .ref f) kk I4 x5 (I4.ok.hd hcm) hrg hz hal hsk (fun v hv => by have := rm.un; have := hdp v hv; omega) (PyProof.Rows.ksk_s2 _ _ _) (fun _ => PyProof.Rows.ksk_l2 _ _ _) (fun _ => PyProof.Rows.ksk_t2 _ _ _) (fun v u hv hr pins' s' H' I' x' => ?_) q9
      exact run_lam S (fun pm ctv => hbind pm _ ctv u) (hbody f c') (by exact rm.in1.in1) cn.gd rfl I' hr (x' _ _ hf4) (x' _ _ hc4) (ht v hv H' x')
end
/-! ## a def whose code object is known -/
section
variable {P : Program} {w : World} {K : PySem.W.Frag} {mg : Str → Option Value} {base : Heap}
theorem fng_ofC {x qual : Str} {st : Stmt} {f : Addr} {fd : FuncData} {N ps : List Str} {k : Nat} {sp : Sp} (F : Fun K x qual st f fd) (S : FnScope N ps (defScope st)) (len : ∀ vs H Q E, sp vs H Q E → vs.length = ps.length)
    (body : ∀ (A : Around) (outer : List Env) (s : Shared) (H1 : Hp) (E1 : XK) (W : WX) (vs : List V) (H : Hp) (Q : VK) (E : XK), Cn (fx P w K mg base N qual st f fd.code A outer s H1 E1) W k → Own (fx P w K mg base N qual st f fd.code A outer s H1 E1) →
      (∀ c d σ H', E c d H' → W c d σ H') → sp vs H Q E → WSs (fx P w K mg base N qual st f fd.code A outer s H1 E1) (defBody st) { nx := fun _ H' => Q .non H', rt := Q } (start N vs) H) : FnG P w K mg base (k + 1) f fd ps sp := by
  obtain ⟨oc, od, kV, doc, pm, an, cd, ct, osl, rfl, lk, hcd⟩ := F.ex
  refine ⟨len, fun A outer s H1 args us vs H Q E hr hgd e0 hb r hx hsp => ?_⟩
  have KX : K.In s.heap := e0.mod.kin.keeps fun b o e => (e0.bs b o e).1
  have hl := len _ _ _ _ hsp
  have kinds : ∀ y ∈ ps.zip us, (defScope st).names.lookup y.1 = some .local ∨ ((defScope st).names.lookup y.1 = some .cell ∧ ((cellsFrom (s.heap.objs.size + 1) (defScope st).names []).lookup y.1).isSome = true) := by
    rintro ⟨n, v⟩ hy
    rcases S.par n (List.of_mem_zip hy).1 with q | q
    · exact .inl q
    · exact .inr ⟨q, PySem.W.cellsFrom_some _ _ _ (.inl q)⟩
  refine codeAny_call_function hr.depth (KX _ _ lk) rfl S.co S.gen rfl (PySem.W.codeRec_of KX hcd) (hb _ _ _ _ (wpAny_newFunctionEnv_cells S.kind kinds fun env he s1 x => ?_))
  subst he
  refine ⟨(e0.mod.nolimit.keeps fun b o e => (e0.bs b o e).1).keeps x.toInCall.keep, codeAny_func ?_⟩
  have I := inv_start (CX := L2.CX P w) (E := upE E) S hr.hd e0 hl r x
  have c : Cn (fx P w K mg base N qual st f cd A outer s H1 (upE E)) (fun c d _ H' => upE E c d H') k :=
    ⟨fun _ => hr.deeper _, (hr.deeper _).un, hgd, takes_of (E := upE E) rfl rfl rfl rfl, fun c d σ H H' ⟨H2, x2, q⟩ x3 => ⟨H2, x2.trans x3, q⟩⟩
  have w1 := body A outer s H1 (upE E) _ vs H Q E c (passes_of rfl) (fun c d σ H' q => ⟨H', Ex.refl H', q⟩) hsp
  refine wpAny_mono (w1 H1 hx [] s1 I) (fun fl s' q => ?_) fun e s' q => q
  cases fl with
  | ret u =>
    obtain ⟨v, σ', H', J, rv, q⟩ := q
    exact ⟨v, H', J.os, J.bare, J.base, J.hok, rv, q⟩
  | next =>
    obtain ⟨σ', H', J, q⟩ := q
    exact ⟨.non, H', J.os, J.bare, J.base, J.hok, rfl, q⟩
  | brk =>
    obtain ⟨_, _, _, _, _, q⟩ := q
    exact q.elim
  | cont =>
    obtain ⟨_, _, _, _, _, q⟩ := q
    exact q.elim
variable {n : Str} {st : Stmt} {ps N : List Str} {k : Nat} {zs : RS}
/-- a def that makes lambdas: its code object at c, the table at P -/
structure Mkr (base : Heap) (mg : Str → Option Value) (fd : FuncData) : Type where
  c : Addr
  P : Addr
  e : fd.code = .ref c
  tb : TabB base mg c P
theorem Def.rcalC (d : Def K mg n st ps) (S : FnScope N ps (defScope st)) (hb : ∀ (A : Around) (outer : List Env) (s : Shared) (H1 : Hp) (E1 : XK), SSs (fx P w K mg base N n st d.f d.fd.code A outer s H1 E1) k zs (defBody st)) : Cal P w K mg base n (k + 1) ps [] (rFn ps.length N zs) :=
  ⟨d.f, d.fd, [], fng_ofC d.F S (fun vs H Q E h => h.1) fun A outer s H1 E1 W vs H Q E c o hW h => by
    have c2 : Cn (fx P w K mg base N n st d.f d.fd.code A outer s H1 E1) (upW fun c d _ H' => E c d H') k := ⟨c.room, c.un, c.gd, c.tk.imp fun c0 d0 σ0 H0 ⟨H2, x2, q⟩ => c.wu _ _ _ _ _ (hW _ _ _ _ q) x2, fun c d σ H H' ⟨H2, x2, q⟩ x => ⟨H2, x2.trans x, q⟩⟩
    exact ((hb A outer s H1 E1).run c2 o h.2).le rfn_ends, d.g, d.F.kp, d.b, .nil, by
    obtain ⟨oc, od, kV, doc, pm, an, cd, ct, osl, e, lk, _⟩ := d.F.ex
    exact ⟨oc, od, osl, lk⟩⟩
end
/-! ## the law's end, with tables of code objects -/
section
variable {P : Program} {w : World} {K : PySem.W.Frag} {mg mb : Str → Option Value} {k : Nat} {fa a : Addr} {fd : FuncData} {x : Str} {sp : Sp} {s : Shared} {vs : List Value} {ns : List Int} {cs : List (Addr × Addr)}
theorem end_fromT (KX : K.In s.heap) (hns : s.heap.Ns mainGlobals mg) (hb : s.heap.Ns builtinsNs mb) (hbb : ∀ x : Str, x ≠ "__name__" → mb x = bootBuiltins x) (hlim : s.heap.NoLimit) (hS : SysB s.heap) (hg : s.gens = #[])
    (hT : ∀ p ∈ cs, s.heap.get? p.2 = some { cls := .none, data := .fields #[] }) (nT : ∀ p ∈ cs, K.lookup p.2 = none) (C : ∀ p ∈ cs, PySem.W.CodeHd s.heap p.1 p.2)
    (hbm : ∃ (bm : Addr) (ob : Obj), mg "__builtins__" = some (.ref bm) ∧ bm ≠ builtinsNs ∧ s.heap.get? bm = some ob ∧ ob.cls = .type "module" ∧ ob.dict = some builtinsNs ∧ ob.data = .plain)
    (ha : s.heap.get? a = some { cls := .type "list", data := .seq vs.toArray }) (hr : Room k callerA) (F : ∀ base : Heap, SysB base → (∀ p ∈ cs, TabB base mg p.1 p.2) → FnG P w K mg base k fa fd [x] sp) (hbind : ∀ (s : Shared) (u : Value), BindsTo s fd ⟨[u], []⟩ [(x, u)])
    (H : Hp) (hH : ∀ p ∈ cs, H p.2 = some (.tbl #[])) (hO : ∀ b, H b = none ∨ b ∈ cs.map (·.2) ∨ ∃ o xs, H b = some (.frz o (.lst xs))) (hok : HOk P w H s.heap) (hA : ∀ b, H b ≠ none → b = a ∨ b ∈ cs.map (·.2)) (hK : H a ≠ none → K.lookup a = none) (hsp : sp [.ref a] H (fun v _ => v = .bl true) fun _ _ _ => False) :
    codeAny (model P w) callerA (.call (.ref fa) ⟨[.ref a], []⟩) (fun r s' => r = .ok (.ret (.bool true)) ∧ OldK s.heap s'.heap ∧ s'.os = s.os ∧ AllBare s'.gens) s := by
  have isT : ∀ b : Addr, b ∈ cs.map (·.2) → s.heap.get? b = some { cls := .none, data := .fields #[] } := fun b hb => by
    obtain ⟨p, hp, e⟩ := List.mem_map.mp hb
    rw [← e]
    exact hT p hp
  have free : ∀ {b : Addr} {o : Obj}, s.heap.get? b = some o → (∀ vs n, o.data ≠ .seq vs n) → o.data ≠ .fields #[] → H b = none := fun {b o} e h1 h2 => by
    cases q : H b with
    | none => rfl
    | some u =>
      rcases hA b (by rw [q]; simp) with z | z
      · rw [z, ha] at e
        cases e
        exact (h1 _ _ rfl).elim
      · rw [isT b z] at e
        cases e
        exact (h2 rfl).elim
  have notDict : ∀ {b : Addr} {o : Obj} {es : Array DictEntry} {ep : Nat}, s.heap.get? b = some o → o.data = .dict es ep → H b = none := fun {b o es ep} e d =>
    free e (fun vs n z => by rw [d] at z; cases z) fun z => by rw [d] at z; cases z
  have ns1 : ∀ {b : Addr} {m : Str → Option Value}, s.heap.Ns b m → (hidT s.heap H).Ns b m := fun ⟨o, es, ep, e, d, r⟩ => ⟨o, es, ep, hidT_get e (notDict e d), d, r⟩
  have KB : K.In (hidT s.heap H) := by
    intro b o e
    refine hidT_get (KX b o e) ?_
    cases q : H b with
    | none => rfl
    | some u =>
      rcases hA b (by rw [q]; simp) with z | z
      · rw [z] at e q
        rw [hK (by rw [q]; simp)] at e; cases e
      · obtain ⟨p, hp, ep⟩ := List.mem_map.mp z
        rw [← ep, nT p hp] at e
        cases e
  have TB : ∀ p ∈ cs, TabB (hidT s.heap H) mg p.1 p.2 := fun p hp => by
    have hTp := hT p hp
    refine ⟨?_, ?_, fun z => ?_⟩
    · obtain ⟨o, us, file, tf, flags, tg, inF, text, tt, e1, r1, r2, r3, r4, r5, r6, r7, r8, hne⟩ := C p hp
      refine ⟨o, us, file, tf, flags, tg, inF, text, tt, hidT_get e1 (free e1 (fun vs n z => ?_) fun z => ?_), r1, r2, r3, r4, r5, r6, r7, r8, hne⟩
      · rw [r2] at z; cases z
      · rw [r2] at z
        cases z
        simp at r3
    · obtain ⟨bm, ob, b1, b2, b3, b4, b5, b6⟩ := hbm
      have nG : bm ≠ mainGlobals := fun q => by
        obtain ⟨o, es, ep, e, hd, _⟩ := hns
        rw [q, e] at b3
        cases b3
        rw [hd] at b6
        cases b6
      have nP : bm ≠ p.2 := fun q => by
        rw [q, hTp] at b3
        cases b3
        cases b6
      exact ⟨bm, ob, b1, b2, nG, nP, hidT_get b3 (free b3 (fun vs n z => by rw [b6] at z; cases z) fun z => by rw [b6] at z; cases z), b4, b5, b6⟩
    · obtain ⟨o, es, ep, e, hd, _⟩ := hns
      rw [z, hTp] at e
      cases e
      cases hd
  have e0 : Env0 P w K mg (hidT s.heap H) callerA [] s H :=
    ⟨rfl, ⟨KB, ns1 hns, ⟨mb, ns1 hb, hbb⟩, by obtain ⟨mc, h1, h2⟩ := hlim; exact ⟨mc, ns1 h1, h2⟩⟩, fun b o e => of_hidT e, Nat.le_of_eq (hidT_size _ _), trivial, (fun b z => by cases z), hok, .of_eq hg⟩
  refine codeAny_mono ((F _ ⟨by obtain ⟨mm, z⟩ := hS.mods; exact ⟨mm, ns1 z⟩, by obtain ⟨mc, z, z2⟩ := hS.figs; exact ⟨mc, ns1 z, z2⟩⟩ TB).run callerA [] s H ⟨[.ref a], []⟩ [.ref a] [.ref a] H _ _ hr rfl e0 (hbind s (.ref a)) (.cons rfl .nil) (Ex.refl H) hsp) fun r s' h => ?_
  rcases r with er | fl
  · obtain ⟨_, _, _, _, _, _, _, _, _, _, _, _, H2, _, z⟩ := h
    exact z.elim
  · cases fl with
    | ret u =>
      obtain ⟨v, H', os, bare, un, hok', rv, H2, _, q⟩ := h
      subst q
      obtain rfl : u = Value.bool true := rv
      have key : ∀ b o, b ∉ cs.map (·.2) → s.heap.get? b = some o → s'.heap.get? b = some o := fun b o nb e => by
        rcases hO b with z | z | ⟨ob, xs, z⟩
        · exact un.keep b o e z (by intro q; cases q) (by simp)
        · exact absurd z nb
        · have e1 := (hok b _ z).1
          have e2 := (hok' b _ (un.frzs b ob _ z)).1
          rw [e] at e1; cases e1
          exact e2
      have grown : ∀ p ∈ cs, ∃ more : Array Value, s'.heap.get? p.2 = some { cls := .none, data := .fields more } := fun p hp => by
        obtain ⟨more, z⟩ := un.tbls p.2 #[] (hH p hp)
        exact ⟨_, hok' p.2 _ z⟩
      refine ⟨rfl, ⟨fun b o e => ?_, fun b o e => ?_⟩, os, bare⟩
      · by_cases hb : b ∈ cs.map (·.2)
        · obtain ⟨p, hp, ep⟩ := List.mem_map.mp hb
          obtain ⟨more, hm⟩ := grown p hp
          rw [← ep] at e ⊢
          rw [hT p hp] at e
          cases e
          exact .inr (.inl ⟨((C p hp).tab (hT p hp)).isCodeTable, rfl, #[], more, rfl, by rw [Array.empty_append]; exact hm⟩)
        · exact .inl (key b o hb e)
      · by_cases hb : b ∈ cs.map (·.2)
        · obtain ⟨p, hp, ep⟩ := List.mem_map.mp hb
          obtain ⟨more, hm⟩ := grown p hp
          rw [← ep]
          exact ⟨_, hm⟩
        · exact ⟨o, key b o hb e⟩
    | _ => exact h.elim
theorem end_callT (KX : K.In s.heap) (hns : s.heap.Ns mainGlobals mg) (hb : s.heap.Ns builtinsNs mb) (hbb : ∀ x : Str, x ≠ "__name__" → mb x = bootBuiltins x) (hlim : s.heap.NoLimit) (hS : SysB s.heap) (hg : s.gens = #[])
    (hT : ∀ p ∈ cs, s.heap.get? p.2 = some { cls := .none, data := .fields #[] }) (nT : ∀ p ∈ cs, K.lookup p.2 = none) (C : ∀ p ∈ cs, PySem.W.CodeHd s.heap p.1 p.2)
    (hbm : ∃ (bm : Addr) (ob : Obj), mg "__builtins__" = some (.ref bm) ∧ bm ≠ builtinsNs ∧ s.heap.get? bm = some ob ∧ ob.cls = .type "module" ∧ ob.dict = some builtinsNs ∧ ob.data = .plain)
    (ha : s.heap.get? a = some { cls := .type "list", data := .seq vs.toArray }) (hi : IntsAre vs ns) (hl : ns.length ≤ sizeLine) (hr : Room k callerA) (F : ∀ base : Heap, SysB base → (∀ p ∈ cs, TabB base mg p.1 p.2) → FnG P w K mg base k fa fd [x] sp) (hbind : ∀ (s : Shared) (u : Value), BindsTo s fd ⟨[u], []⟩ [(x, u)])
    (hsp : ∀ H : Hp, (∀ p ∈ cs, H p.2 = some (.tbl #[])) → SqL K H a (ns.map V.int) → sp [.ref a] H (fun v _ => v = .bl true) fun _ _ _ => False) :
    codeAny (model P w) callerA (.call (.ref fa) ⟨[.ref a], []⟩) (fun r s' => r = .ok (.ret (.bool true)) ∧ OldK s.heap s'.heap ∧ s'.os = s.os ∧ AllBare s'.gens) s := by
  have rv := vals_ints hi
  have lv := hi.length
  have inT : ∀ p ∈ cs, p.2 ∈ cs.map (·.2) := fun p hp => List.mem_map.mpr ⟨p, hp, rfl⟩
  have aT : a ∉ cs.map (·.2) := fun z => by
    obtain ⟨p, hp, e⟩ := List.mem_map.mp z
    have q := hT p hp
    rw [e, ha] at q
    have z' : Data.seq vs.toArray _ = Data.fields #[] := congrArg Obj.data (Option.some.inj q)
    cases z'
  have tabOk : ∀ {H : Hp} {b : Addr}, b ∈ cs.map (·.2) → ObjOk P w H s.heap b (.tbl #[]) := fun {H b} hb => by
    obtain ⟨p, hp, e⟩ := List.mem_map.mp hb
    rw [← e]
    exact hT p hp
  cases q : K.lookup a with
  | some o =>
    have e := KX a o q
    rw [ha] at e; cases e
    let H : Hp := fun b => if b ∈ cs.map (·.2) then some (.tbl #[]) else none
    have yes : ∀ {b}, b ∈ cs.map (·.2) → H b = some (.tbl #[]) := fun hb => if_pos hb
    have no : ∀ {b}, b ∉ cs.map (·.2) → H b = none := fun hb => if_neg hb
    refine end_fromT KX hns hb hbb hlim hS hg hT nT C hbm ha hr F hbind H (fun p hp => yes (inT p hp)) (fun b => ?_) (fun b u z => ?_) (fun b z => ?_) (fun z => absurd (no aT) z) (hsp H (fun p hp => yes (inT p hp)) (.inr ⟨_, vs.toArray, _, q, rfl, rfl, rfl, ?_, by simpa using rv⟩))
    · by_cases hb : b ∈ cs.map (·.2)
      · exact .inr (.inl hb)
      · exact .inl (no hb)
    · by_cases hb : b ∈ cs.map (·.2)
      · rw [yes hb] at z; cases z
        exact tabOk hb
      · rw [no hb] at z; cases z
    · by_cases hb : b ∈ cs.map (·.2)
      · exact .inr hb
      · exact absurd (no hb) z
    · rw [List.size_toArray, lv]
      exact hl
  | none =>
    let ob : Obj := { cls := .type "list", data := .seq vs.toArray }
    let H : Hp := fun b => if b = a then some (.frz ob (.lst (ns.map V.int))) else if b ∈ cs.map (·.2) then some (.tbl #[]) else none
    have one : H a = some (.frz ob (.lst (ns.map V.int))) := if_pos rfl
    have yes : ∀ {b}, b ∈ cs.map (·.2) → H b = some (.tbl #[]) := fun {b} hb => (if_neg (fun z : b = a => aT (by rw [← z]; exact hb))).trans (if_pos hb)
    have no : ∀ {b}, b ≠ a → b ∉ cs.map (·.2) → H b = none := fun h1 hb => (if_neg h1).trans (if_neg hb)
    refine end_fromT KX hns hb hbb hlim hS hg hT nT C hbm ha hr F hbind H (fun p hp => yes (inT p hp)) (fun b => ?_) (fun b u z => ?_) (fun b z => ?_) (fun _ => q) (hsp H (fun p hp => yes (inT p hp)) (.inl (.inr ⟨ob, one⟩)))
    · by_cases h1 : b = a
      · subst h1; exact .inr (.inr ⟨ob, _, one⟩)
      · by_cases hb : b ∈ cs.map (·.2)
        · exact .inr (.inl hb)
        · exact .inl (no h1 hb)
    · by_cases h1 : b = a
      · subst h1
        rw [one] at z; cases z
        exact ⟨ha, by rw [List.length_map]; exact hl, vs, _, rv, ha⟩
      · by_cases hb : b ∈ cs.map (·.2)
        · rw [yes hb] at z; cases z
          exact tabOk hb
        · rw [no h1 hb] at z; cases z
    · by_cases h1 : b = a
      · exact .inl h1
      · by_cases hb : b ∈ cs.map (·.2)
        · exact .inr hb
        · exact absurd (no h1 hb) z
/-- the goal that k_head leaves (with tables), from the law's promise -/
def LawT (l : PySem.W.OpenLaw) (w : World) (K : PySem.W.Frag) (k n : Nat) (x : Str) (mg : Str → Option Value) (fa : Addr) (h : Heap) : Prop :=
  ∃ (fd : FuncData) (cs : List (Addr × Addr)) (sp : Sp), (∀ p ∈ cs, h.get? p.2 = some { cls := .none, data := .fields #[] }) ∧ (∀ p ∈ cs, K.lookup p.2 = none) ∧ (∀ p ∈ cs, PySem.W.CodeHd h p.1 p.2) ∧ (∀ (s : Shared) (u : Value), BindsTo s fd ⟨[u], []⟩ [(x, u)]) ∧
    (∀ (H : Hp) (a : Addr) (ns : List Int), ns.length ≤ n → (∀ z ∈ ns, Builtin.Int.intBits z ≤ 1048576) → (∀ p ∈ cs, H p.2 = some (.tbl #[])) → SqL K H a (ns.map V.int) → sp [.ref a] H (fun v _ => v = .bl true) fun _ _ _ => False) ∧
    ∀ base : Heap, SysB base → (∀ p ∈ cs, TabB base mg p.1 p.2) → FnG l.prog w K mg base k fa fd [x] sp
theorem walk_endT {l : PySem.W.OpenLaw} {n k : Nat} {q : Program} {loose : List Str} {XP : (Str → Option Value) → Heap → Prop} {YP : World → Heap → Prop} {d : DefRec} {K : Params → PySem.W.Frag} {x : Str}
    (hn : l.most = some n) (hn2 : n ≤ sizeLine) (hI : importsNone q = true) (hdf : d.params.defaults = []) (hr : Room k callerA) (hY : ∀ (w : World) (h : Heap), YP w h → (K w.params).In h)
    (F : ∀ (w : World) (mg : Str → Option Value) (fa : Addr) (h : Heap), YP w h → (K w.params).In h → h.Ns mainGlobals mg → mg d.name = some (.ref fa) → LawT l w (K w.params) k n x mg fa h) :
    PySem.W.WalkO q loose XP YP l.row.toRowW d [] (fun f vs => PySem.call f vs) := by
  refine Att.attach_callB hn hdf fun w s0 s1 mg mb fa o pm cd doc a vs ns G Y ho hd hcd hmg hobj hints hlen hbits hg => ?_
  obtain ⟨fd, cs, sp, hT, nT, C, hb, hsp, hF⟩ := F w mg fa _ Y (hY w _ Y) G.T.g hmg
  exact end_callT (hY w _ Y) G.T.g G.T.b G.T.builtins G.T.nolimit ⟨(G.T.seer hI).mods.imp fun mm z => z.1, G.T.nodigits⟩ hg hT nT C G.T.bmain hobj hints (Nat.le_trans hlen hn2) hr hF hb fun H hH hS => hsp H a ns hlen hbits hH hS
end
/-! ## parts of a def's text -/
def e0x : Expr := .Name "" ⟨0, 0, 0, 0⟩
def pNth : Nat → List Stmt → Stmt
  | 0, s :: _ => s
  | n + 1, _ :: r => pNth n r
  | _, [] => .Pass ⟨0, 0, 0, 0⟩
def pStE : Stmt → Expr
  | .Assign _ v _ => v
  | .Expr v _ => v
  | _ => e0x
def pSub : Expr → Expr
  | .Subscript v _ _ => v
  | _ => e0x
def pKw : Expr → Expr
  | .Call _ _ (k :: _) _ => k.value
  | _ => e0x
def lamA : Expr → Arguments
  | .Lambda a _ _ _ => a
  | _ => { posonlyargs := [], args := [], vararg := none, kwonlyargs := [], kw_defaults := [], kwarg := none, defaults := [] }
def lamB : Expr → Expr
  | .Lambda _ b _ _ => b
  | _ => e0x
def lamS : Expr → Scope
  | .Lambda _ _ s _ => s
  | _ => { kind := .function, names := [], isGenerator := false, isCoroutine := false, more := [] }
/-- the name of a lambda in the def n -/
abbrev qLam (n : Str) : Str := (n ++ ".<locals>.") ++ "<lambda>"
theorem lam_hu {P : Addr} {q : Str} : ∀ p ∈ [(P, q)], p.1 = P → p.2 = q := fun p hp _ => by rw [List.mem_singleton.mp hp]
/-- what a law's end asks of the law's def, with tables -/
def sp_endT (K : PySem.W.Frag) (cs : List (Addr × Addr)) : Sp := fun vs H Q _ => ∃ (a : Addr) (ns : List Int), vs = [.ref a] ∧ SqL K H a (ns.map V.int) ∧ ns.length ≤ 63 ∧ (∀ p ∈ cs, H p.2 = some (.tbl #[])) ∧ ∀ H', Q (.bl true) H'
theorem FnG.atEndT {P : Program} {w : World} {K : PySem.W.Frag} {mg : Str → Option Value} {base : Heap} {k : Nat} {f : Addr} {fd : FuncData} {x : Str} {sp : Sp} {cs : List (Addr × Addr)} (F : FnG P w K mg base k f fd [x] sp)
    (h : ∀ {a : Addr} {ns : List Int} {H : Hp}, SqL K H a (ns.map V.int) → ns.length ≤ 63 → (∀ p ∈ cs, H p.2 = some (.tbl #[])) → ∀ {Q : VK} {E : XK}, (∀ H, Q (.bl true) H) → sp [.ref a] H Q E) : FnG P w K mg base k f fd [x] (sp_endT K cs) :=
  F.imp fun vs H Q E ⟨a, ns, e, hs, hl, hc, q⟩ => by
    subst e
    exact h hs hl hc q
theorem law_endT {l : PySem.W.OpenLaw} {w : World} {K : PySem.W.Frag} {mg : Str → Option Value} {n x : Str} {st : Stmt} {k : Nat} {fa : Addr} {h : Heap} {cs : List (Addr × Addr)} (d : Def K mg n st [x]) (hfa : mg n = some (.ref fa)) (hb : ∀ us : List Value, us.length = 1 → bindArgs d.fd ⟨us, []⟩ = pure ([x].zip us))
    (hT : ∀ p ∈ cs, h.get? p.2 = some { cls := .none, data := .fields #[] }) (nT : ∀ p ∈ cs, K.lookup p.2 = none) (C : ∀ p ∈ cs, PySem.W.CodeHd h p.1 p.2)
    (F : ∀ base : Heap, SysB base → (∀ p ∈ cs, TabB base mg p.1 p.2) → FnG l.prog w K mg base k d.f d.fd [x] (sp_endT K cs)) : LawT l w K k 63 x mg fa h := by
  have e := hfa.symm.trans d.g
  cases e
  exact ⟨d.fd, cs, sp_endT K cs, hT, nT, C, fun s u => .of_eq (hb [u] rfl), fun H a ns hl _ hH hS => ⟨a, ns, rfl, hS, hl, hH, fun _ => rfl⟩, F⟩

local macro_rules | `(tactic| walk_at "G:heap") => `(tactic| first
  | with_reducible assumption
  | with_reducible exact upd_same
  | ((with_reducible apply SqL.of); walk_at "G:heap")
  | ((with_reducible apply SqT.of); walk_at "G:heap")
  | ((with_reducible apply hp_ne); (focus (with_reducible assumption)); walk_at "G:heap"))
local macro_rules | `(tactic| walk_at "G:ex") => `(tactic| first
  | with_reducible exact Ex.refl _
  | with_reducible assumption
  | ((with_reducible apply Ex.new); (focus (walk_at "G:ex")); with_reducible assumption)
  | ((with_reducible apply exput); (focus (walk_at "G:ex")); walk_at "G:heap"))
local macro_rules | `(tactic| walk_at "G:exb") => `(tactic| first
  | with_reducible exact ExB.refl
  | ((with_reducible apply ExB.set); walk_at "G:exb")
  | ((with_reducible apply ExB.new); (focus (walk_at "G:exb")); with_reducible assumption))
local macro_rules | `(tactic| walk_at "G:ty") => `(tactic| first
  | with_reducible assumption
  | with_reducible exact Ty.int _
  | with_reducible exact Ty.bl _
  | with_reducible exact Ty.str _
  | with_reducible exact Ty.non
  | ((with_reducible apply Ty.lst); (focus (walk_at "G:heap")))
  | ((with_reducible apply Ty.tup); (focus (walk_at "G:heap")))
  | ((with_reducible apply Ty.dct); (focus (walk_at "G:heap"))))
local macro_rules | `(tactic| walk_at "G:tyn") => `(tactic| first | exact .inl rfl | exact .inr (.inl rfl) | exact .inr (.inr (.inl rfl)) | exact .inr (.inr (.inr (.inl rfl))) | exact .inr (.inr (.inr (.inr (.inl rfl)))) | exact .inr (.inr (.inr (.inr (.inr rfl)))))
local macro_rules | `(tactic| walk_at "G:ix") => `(tactic| first | with_reducible assumption | ((with_reducible apply atI_nat); with_reducible assumption) | rfl)
local macro_rules | `(tactic| walk_at "G:side") => `(tactic| first | with_reducible assumption | omega | decide | (simp; done) | (simp; omega))
local macro_rules | `(tactic| walk_at "G:mod") => `(tactic| first | omega | decide)
local macro_rules | `(tactic| walk_at "G:fdiv") => `(tactic| (apply fdiv_ok; (focus (first | omega | decide)); first | omega | decide +kernel))
local macro_rules | `(tactic| walk_at "G:dig") => `(tactic| (apply And.intro; (focus (first | omega | decide +kernel)); first | omega | decide +kernel))
local macro_rules | `(tactic| walk_at "G:mul") => `(tactic| first
  | (apply mul_okL <;> omega)
  | (apply mul_okR <;> omega))
local macro_rules | `(tactic| walk_at "G:pow") => `(tactic| (apply pow_ok <;> omega))
local macro_rules | `(tactic| walk_at "G:shl") => `(tactic| (apply shl_fits <;> omega))
local macro_rules | `(tactic| walk_at "G:dp") => `(tactic| first
  | with_reducible assumption
  | with_reducible exact Dp.non
  | with_reducible exact Dp.bl _
  | with_reducible exact Dp.int _
  | with_reducible exact Dp.str _
  | with_reducible exact DpAll.nil
  | ((with_reducible apply DpAll.cons); (focus (walk_at "G:dp")); walk_at "G:dp")
  | ((with_reducible apply Dp.lst); (focus (walk_at "G:heap")); walk_at "G:dp")
  | ((with_reducible apply Dp.tup); (focus (walk_at "G:heap")); walk_at "G:dp"))
local macro_rules | `(tactic| walk_at "G:rp") => `(tactic| (refine RpOk.mk ?_ ?_ ?_; (focus (simp [fits, fitsAll]; try omega)); (focus (simp [PyData.bulk, PyData.bulkAll]; try omega)); (simp [PyData.depth, PyData.depthAll]; try omega)))
local macro_rules | `(tactic| walk_at "G:vis") => `(tactic| first | exact .inl rfl | exact .inr (.inl rfl) | exact .inr (.inr rfl))
local macro_rules | `(tactic| walk_at "vc") => `(tactic| ((conv => whnf); (try dsimp only)))
def top (i : Nat) : Stmt := PySem.Challenge.pw_sampledversions_k13_whole_strongest.main.body.getD i (.Pass ⟨0, 0, 0, 0⟩)
abbrev s_is_int : Stmt := top 5
theorem sc_is_int : FnScope ["value"] ["value"] (defScope s_is_int) := ⟨rfl, rfl, rfl, by decide +kernel, rfl, by decide +kernel, by decide +kernel⟩
abbrev s_is_version : Stmt := top 6
theorem sc_is_version : FnScope ["value"] ["value"] (defScope s_is_version) := ⟨rfl, rfl, rfl, by decide +kernel, rfl, by decide +kernel, by decide +kernel⟩
abbrev s_want_version : Stmt := top 8
theorem sc_want_version : FnScope ["value"] ["value"] (defScope s_want_version) := ⟨rfl, rfl, rfl, by decide +kernel, rfl, by decide +kernel, by decide +kernel⟩
abbrev s_want_number : Stmt := top 9
theorem sc_want_number : FnScope ["value", "least"] ["value", "least"] (defScope s_want_number) := ⟨rfl, rfl, rfl, by decide +kernel, rfl, by decide +kernel, by decide +kernel⟩
abbrev s_lowest_bit : Stmt := top 10
theorem sc_lowest_bit : FnScope ["version"] ["version"] (defScope s_lowest_bit) := ⟨rfl, rfl, rfl, by decide +kernel, rfl, by decide +kernel, by decide +kernel⟩
abbrev s_precedes : Stmt := top 11
theorem sc_precedes : FnScope ["version", "other", "one_step", "other_step"] ["version", "other"] (defScope s_precedes) := ⟨rfl, rfl, rfl, by decide +kernel, rfl, by decide +kernel, by decide +kernel⟩
abbrev s_odd_multiples : Stmt := top 12
theorem sc_odd_multiples : FnScope ["low", "high", "power", "count", "last", "found"] ["low", "high", "power", "count"] (defScope s_odd_multiples) := ⟨rfl, rfl, rfl, by decide +kernel, rfl, by decide +kernel, by decide +kernel⟩
abbrev s_strongest : Stmt := top 13
theorem sc_strongest : FnScope ["low", "high", "count", "found", "power"] ["low", "high", "count"] (defScope s_strongest) := ⟨rfl, rfl, rfl, by decide +kernel, rfl, by decide +kernel, by decide +kernel⟩
abbrev s_count_multiples : Stmt := top 14
theorem sc_count_multiples : FnScope ["low", "high", "divisor"] ["low", "high", "divisor"] (defScope s_count_multiples) := ⟨rfl, rfl, rfl, by decide +kernel, rfl, by decide +kernel, by decide +kernel⟩
abbrev s_count_stronger : Stmt := top 15
theorem sc_count_stronger : FnScope ["version", "low", "high", "own_step", "above", "alike"] ["version", "low", "high"] (defScope s_count_stronger) := ⟨rfl, rfl, rfl, by decide +kernel, rfl, by decide +kernel, by decide +kernel⟩
abbrev s__law_pot : Stmt := top 17
theorem sc__law_pot : FnScope ["_law_script", "_law_k", "_law_cell"] ["_law_script", "_law_k"] (defScope s__law_pot) := ⟨rfl, rfl, rfl, by decide +kernel, rfl, by decide +kernel, by decide +kernel⟩
abbrev s__law_digit : Stmt := top 18
theorem sc__law_digit : FnScope ["_law_pot_here", "_law_many", "_law_digit_here"] ["_law_pot_here", "_law_many"] (defScope s__law_digit) := ⟨rfl, rfl, rfl, by decide +kernel, rfl, by decide +kernel, by decide +kernel⟩
abbrev s__law_pick : Stmt := top 19
theorem sc__law_pick : FnScope ["_law_pot_here", "_law_some"] ["_law_pot_here", "_law_some"] (defScope s__law_pick) := ⟨rfl, rfl, rfl, by decide +kernel, rfl, by decide +kernel, by decide +kernel⟩
abbrev s__law_first_power : Stmt := top 20
theorem sc__law_first_power : FnScope ["_law_version", "_law_found", "_law_k"] ["_law_version"] (defScope s__law_first_power) := ⟨rfl, rfl, rfl, by decide +kernel, rfl, by decide +kernel, by decide +kernel⟩
abbrev s__law_own_key : Stmt := top 21
theorem sc__law_own_key : FnScope ["_law_version"] ["_law_version"] (defScope s__law_own_key) := ⟨rfl, rfl, rfl, by decide +kernel, rfl, by decide +kernel, by decide +kernel⟩
abbrev s__law_begin : Stmt := top 22
theorem sc__law_begin : FnScope ["_law_pot_here", "_law_power", "_law_some"] ["_law_pot_here"] (defScope s__law_begin) := ⟨rfl, rfl, rfl, by decide +kernel, rfl, by decide +kernel, by decide +kernel⟩
abbrev s__law_near_right : Stmt := top 23
theorem sc__law_near_right : FnScope ["_law_pot_here", "_law_first", "_law_last", "_law_many", "_law_due", "_law_told", "_law_one", "_law_two"] ["_law_pot_here"] (defScope s__law_near_right) := ⟨rfl, rfl, rfl, by decide +kernel, rfl, by decide +kernel, by decide +kernel⟩
abbrev s__law_multiples : Stmt := top 24
theorem sc__law_multiples : FnScope ["_law_first", "_law_last", "_law_power"] ["_law_first", "_law_last", "_law_power"] (defScope s__law_multiples) := ⟨rfl, rfl, rfl, by decide +kernel, rfl, by decide +kernel, by decide +kernel⟩
abbrev s__law_stronger : Stmt := top 25
theorem sc__law_stronger : FnScope ["_law_version", "_law_first", "_law_last", "_law_power", "_law_begin_here", "_law_alike"] ["_law_version", "_law_first", "_law_last"] (defScope s__law_stronger) := ⟨rfl, rfl, rfl, by decide +kernel, rfl, by decide +kernel, by decide +kernel⟩
abbrev s__law_far_right : Stmt := top 26
theorem sc__law_far_right : FnScope ["_law_pot_here", "_law_first", "_law_many", "_law_spans", "_law_last", "_law_told", "_law_one", "_law_keys", "_law_two", "_law_at", "_law_version", "_law_again"] ["_law_pot_here"] (defScope s__law_far_right) := ⟨rfl, rfl, rfl, by decide +kernel, rfl, by decide +kernel, by decide +kernel⟩
abbrev s_law : Stmt := top 27
theorem sc_law : FnScope ["_law_script", "_law_k", "_law_pot_here", "_law_turn"] ["_law_script"] (defScope s_law) := ⟨rfl, rfl, rfl, by decide +kernel, rfl, by decide +kernel, by decide +kernel⟩
structure All (base : Heap) (K : PySem.W.Frag) (mg : Str → Option Value) where
  is_int : Def K mg "is_int" s_is_int ["value"]
  is_version : Def K mg "is_version" s_is_version ["value"]
  want_version : Def K mg "want_version" s_want_version ["value"]
  want_number : Def K mg "want_number" s_want_number ["value", "least"]
  lowest_bit : Def K mg "lowest_bit" s_lowest_bit ["version"]
  precedes : Def K mg "precedes" s_precedes ["version", "other"]
  odd_multiples : Def K mg "odd_multiples" s_odd_multiples ["low", "high", "power", "count"]
  strongest : Def K mg "strongest" s_strongest ["low", "high", "count"]
  count_multiples : Def K mg "count_multiples" s_count_multiples ["low", "high", "divisor"]
  count_stronger : Def K mg "count_stronger" s_count_stronger ["version", "low", "high"]
  _law_pot : Def K mg "_law_pot" s__law_pot ["_law_script", "_law_k"]
  _law_digit : Def K mg "_law_digit" s__law_digit ["_law_pot_here", "_law_many"]
  _law_pick : Def K mg "_law_pick" s__law_pick ["_law_pot_here", "_law_some"]
  _law_first_power : Def K mg "_law_first_power" s__law_first_power ["_law_version"]
  _law_own_key : Def K mg "_law_own_key" s__law_own_key ["_law_version"]
  _law_begin : Def K mg "_law_begin" s__law_begin ["_law_pot_here"]
  _law_near_right : Def K mg "_law_near_right" s__law_near_right ["_law_pot_here"]
  _law_multiples : Def K mg "_law_multiples" s__law_multiples ["_law_first", "_law_last", "_law_power"]
  _law_stronger : Def K mg "_law_stronger" s__law_stronger ["_law_version", "_law_first", "_law_last"]
  _law_far_right : Def K mg "_law_far_right" s__law_far_right ["_law_pot_here"]
  law : Def K mg "law" s_law ["_law_script"]
  InvalidVersion : Addr
  InvalidVersion_g : mg "InvalidVersion" = some (.ref InvalidVersion)
  InvalidVersion_e : ErrC K mg "InvalidVersion" InvalidVersion
  InvalidNumber : Addr
  InvalidNumber_g : mg "InvalidNumber" = some (.ref InvalidNumber)
  InvalidNumber_e : ErrC K mg "InvalidNumber" InvalidNumber
  sys : SysB base
  mk__law_near_right : Mkr base mg _law_near_right.fd
  n_ValueError : mg "ValueError" = none
  n_abs : mg "abs" = none
  n_all : mg "all" = none
  n_bool : mg "bool" = none
  n_divmod : mg "divmod" = none
  n_enumerate : mg "enumerate" = none
  n_int : mg "int" = none
  n_isinstance : mg "isinstance" = none
  n_len : mg "len" = none
  n_list : mg "list" = none
  n_max : mg "max" = none
  n_min : mg "min" = none
  n_range : mg "range" = none
  n_repr : mg "repr" = none
  n_sorted : mg "sorted" = none
  n_zip : mg "zip" = none
def lT {base : Heap} {K : PySem.W.Frag} {mg : Str → Option Value} (T : All base K mg) : List (Addr × Str) := [(T.mk__law_near_right.P, qLam "_law_near_right")]
section
variable {P : Program} {w : World} {K : PySem.W.Frag} {mg : Str → Option Value} {base : Heap}
def t_is_int (T : All base K mg) : RS :=
 zRet (rAnd (rB cIsT (aCons (rVar 0) (aCons (rC (.ty "int")) aNil))) (rNot (rB cIsT (aCons (rVar 0) (aCons (rC (.ty "bool")) aNil)))))
@[irreducible] def sp_is_int (T : All base K mg) : Sp := rFn 1 ["value"] (t_is_int T)
theorem ok_is_int (T : All base K mg) : Cal P w K mg base "is_int" 1 ["value"] [] (sp_is_int T) := by
 delta sp_is_int; exact T.is_int.rcal sc_is_int fun cd A outer s H1 E1 =>
 (z_one (z_ret (s_and (s_bi c_isT T.n_isinstance PyProof.Rows.boot_isinstance (a_cons (s_var (i := 0) rfl (.inl rfl)) (a_cons (s_ty T.n_int PyProof.Rows.boot_int) a_nil))) (s_one (s_not (s_bi c_isT T.n_isinstance PyProof.Rows.boot_isinstance (a_cons (s_var (i := 0) rfl (.inl rfl)) (a_cons (s_ty T.n_bool PyProof.Rows.boot_bool) a_nil))))))))
def t_is_version (T : All base K mg) : RS :=
 zRet (rAnd (rCall (sp_is_int T) [] (aCons (rVar 0) aNil)) (rBin oGe (rVar 0) (rC (.int 0))))
@[irreducible] def sp_is_version (T : All base K mg) : Sp := rFn 1 ["value"] (t_is_version T)
theorem ok_is_version (T : All base K mg) : Cal P w K mg base "is_version" 2 ["value"] [] (sp_is_version T) := by
 delta sp_is_version; exact T.is_version.rcal sc_is_version fun cd A outer s H1 E1 =>
 (z_one (z_ret (s_and (s_call (ok_is_int T) (a_cons (s_var (i := 0) rfl (.inl rfl)) a_nil)) (s_one (s_cmp o_ge (s_var (i := 0) rfl (.inl rfl)) s_int)))))
def t_want_version (T : All base K mg) : RS :=
 zIf (tNot (tV (rCall (sp_is_version T) [] (aCons (rVar 0) aNil))))
 (zRaise T.InvalidVersion (aCons (rC (.str "a version is an integer that is at least 0")) aNil))
 (zNil)
@[irreducible] def sp_want_version (T : All base K mg) : Sp := rFn 1 ["value"] (t_want_version T)
theorem ok_want_version (T : All base K mg) : Cal P w K mg base "want_version" 3 ["value"] [] (sp_want_version T) := by
 delta sp_want_version; exact T.want_version.rcal sc_want_version fun cd A outer s H1 E1 =>
 (z_one (z_if (b_not (b_val (s_call (ok_is_version T) (a_cons (s_var (i := 0) rfl (.inl rfl)) a_nil))))
 (z_one (z_raise T.InvalidVersion_e (a_cons s_str a_nil)))
 z_nil))
def t_want_number (T : All base K mg) : RS :=
 zIf (tOr (tNot (tV (rCall (sp_is_int T) [] (aCons (rVar 0) aNil)))) (tCmp oLt (rVar 0) (rVar 1)))
 (zRaise T.InvalidNumber (aCons (rJoin [rC (.str "an integer that is at least "), rFmtI (rVar 1), rC (.str " is required")]) aNil))
 (zNil)
@[irreducible] def sp_want_number (T : All base K mg) : Sp := rFn 2 ["value", "least"] (t_want_number T)
theorem ok_want_number (T : All base K mg) : Cal P w K mg base "want_number" 2 ["value", "least"] [] (sp_want_number T) := by
 delta sp_want_number; exact T.want_number.rcal sc_want_number fun cd A outer s H1 E1 =>
 (z_one (z_if (b_ww (w_or (b_not (b_val (s_call (ok_is_int T) (a_cons (s_var (i := 0) rfl (.inl rfl)) a_nil)))) (w_or1 (b_cmp o_lt (s_var (i := 0) rfl (.inl rfl)) (s_var (i := 1) rfl (.inl rfl))))))
 (z_one (z_raise T.InvalidNumber_e (a_cons (s_join (.cons s_str (.cons (s_fmt (s_var (i := 1) rfl (.inl rfl))) (.cons s_str SJ.nil)))) a_nil)))
 z_nil))
def t_lowest_bit (T : All base K mg) : RS :=
 zRet (rBin oAnd (rVar 0) (rNeg (rVar 0)))
@[irreducible] def sp_lowest_bit (T : All base K mg) : Sp := rFn 1 ["version"] (t_lowest_bit T)
theorem ok_lowest_bit (T : All base K mg) : Cal P w K mg base "lowest_bit" 1 ["version"] [] (sp_lowest_bit T) := by
 delta sp_lowest_bit; exact T.lowest_bit.rcal sc_lowest_bit fun cd A outer s H1 E1 =>
 (z_one (z_ret (s_bin o_and (s_var (i := 0) rfl (.inl rfl)) (s_neg (s_var (i := 0) rfl (.inl rfl))))))
def t_precedes (T : All base K mg) : RS :=
 zCons (zExpr (rCall (sp_want_version T) [] (aCons (rVar 0) aNil)))
 (zCons (zExpr (rCall (sp_want_version T) [] (aCons (rVar 1) aNil)))
 (zCons (zIf (tOr (tCmp oEqI (rVar 0) (rC (.int 0))) (tCmp oEqI (rVar 1) (rC (.int 0))))
 (zRet (rAnd (rBin oEqI (rVar 0) (rC (.int 0))) (rBin oGt (rVar 1) (rC (.int 0)))))
 (zNil))
 (zCons (zPar 2 3 (aCons (rCall (sp_lowest_bit T) [] (aCons (rVar 0) aNil)) (aCons (rCall (sp_lowest_bit T) [] (aCons (rVar 1) aNil)) aNil)))
 (zRet (rIf (tCmp oEqI (rVar 2) (rVar 3)) (rBin oGt (rVar 0) (rVar 1)) (rBin oGt (rVar 2) (rVar 3)))))))
@[irreducible] def sp_precedes (T : All base K mg) : Sp := rFn 2 ["version", "other", "one_step", "other_step"] (t_precedes T)
theorem ok_precedes (T : All base K mg) : Cal P w K mg base "precedes" 4 ["version", "other"] [] (sp_precedes T) := by
 delta sp_precedes; exact T.precedes.rcal sc_precedes fun cd A outer s H1 E1 =>
 (z_cons (z_expr (s_call (ok_want_version T) (a_cons (s_var (i := 0) rfl (.inl rfl)) a_nil)))
 (z_cons (z_expr (s_call (ok_want_version T) (a_cons (s_var (i := 1) rfl (.inl rfl)) a_nil)))
 (z_cons (z_if (b_ww (w_or (b_cmp o_eqI (s_var (i := 0) rfl (.inl rfl)) s_int) (w_or1 (b_cmp o_eqI (s_var (i := 1) rfl (.inl rfl)) s_int))))
 (z_one (z_ret (s_and (s_cmp o_eqI (s_var (i := 0) rfl (.inl rfl)) s_int) (s_one (s_cmp o_gt (s_var (i := 1) rfl (.inl rfl)) s_int)))))
 z_nil)
 (z_cons (z_par (i := 2) (l := 3) sc_precedes.nd rfl rfl (a_cons (s_call (ok_lowest_bit T) (a_cons (s_var (i := 0) rfl (.inl rfl)) a_nil)) (a_cons (s_call (ok_lowest_bit T) (a_cons (s_var (i := 1) rfl (.inl rfl)) a_nil)) a_nil)))
 (z_one (z_ret (s_if (b_cmp o_eqI (s_var (i := 2) rfl (.inl rfl)) (s_var (i := 3) rfl (.inl rfl))) (s_cmp o_gt (s_var (i := 0) rfl (.inl rfl)) (s_var (i := 1) rfl (.inl rfl))) (s_cmp o_gt (s_var (i := 2) rfl (.inl rfl)) (s_var (i := 3) rfl (.inl rfl))))))))))
def t_odd_multiples (T : All base K mg) : RS :=
 zCons (zSet 4 (rBin oDiv (rVar 1) (rVar 2)))
 (zCons (zIf (tCmp oEqI (rBin oMod (rVar 4) (rC (.int 2))) (rC (.int 0)))
 (zAug 4 oSub (rC (.int 1)))
 (zNil))
 (zCons (zSet 5 (rLst (aNil)))
 (zCons (zWhile (tAnd (tCmp oLt (rB (cLenL K) (aCons (rVar 5) aNil)) (rVar 3)) (tAnd (tCmp oGt (rVar 4) (rC (.int 0))) (tCmp oGe (rBin oMul (rVar 4) (rVar 2)) (rVar 0))))
 (zCons (zExpr (rAppV 5 (rBin oMul (rVar 4) (rVar 2))))
 (zAug 4 oSub (rC (.int 2)))))
 (zRet (rVar 5)))))
@[irreducible] def sp_odd_multiples (T : All base K mg) : Sp := rFn 4 ["low", "high", "power", "count", "last", "found"] (t_odd_multiples T)
theorem ok_odd_multiples (T : All base K mg) : Cal P w K mg base "odd_multiples" 1 ["low", "high", "power", "count"] [] (sp_odd_multiples T) := by
 delta sp_odd_multiples; exact T.odd_multiples.rcal sc_odd_multiples fun cd A outer s H1 E1 =>
 (z_cons (z_set sc_odd_multiples.nd rfl (s_bin o_div (s_var (i := 1) rfl (.inl rfl)) (s_var (i := 2) rfl (.inl rfl))))
 (z_cons (z_if (b_cmp o_eqI (s_bin o_mod (s_var (i := 4) rfl (.inl rfl)) s_int) s_int)
 (z_one (z_aug i_sub sc_odd_multiples.nd rfl s_int))
 z_nil)
 (z_cons (z_set sc_odd_multiples.nd rfl (s_lst a_nil))
 (z_cons (z_while (b_ww (w_and (b_cmp o_lt (s_bi c_lenL T.n_len PySem.boot_len (a_cons (s_var (i := 5) rfl (.inl rfl)) a_nil)) (s_var (i := 3) rfl (.inl rfl))) (w_and (b_cmp o_gt (s_var (i := 4) rfl (.inl rfl)) s_int) (w_and1 (b_cmp o_ge (s_bin o_mul (s_var (i := 4) rfl (.inl rfl)) (s_var (i := 2) rfl (.inl rfl))) (s_var (i := 0) rfl (.inl rfl)))))))
 (z_cons (z_expr (s_appV (i := 5) rfl (.inl rfl) (s_bin o_mul (s_var (i := 4) rfl (.inl rfl)) (s_var (i := 2) rfl (.inl rfl)))))
 (z_one (z_aug i_sub sc_odd_multiples.nd rfl s_int))))
 (z_one (z_ret (s_var (i := 5) rfl (.inl rfl))))))))
def t_strongest (T : All base K mg) : RS :=
 zCons (zExpr (rCall (sp_want_version T) [] (aCons (rVar 0) aNil)))
 (zCons (zExpr (rCall (sp_want_version T) [] (aCons (rVar 1) aNil)))
 (zCons (zExpr (rCall (sp_want_number T) [] (aCons (rVar 2) (aCons (rC (.int 0)) aNil))))
 (zCons (zSet 3 (rIf (tAnd (tCmp oEqI (rVar 0) (rC (.int 0))) (tCmp oGt (rVar 2) (rC (.int 0)))) (rLst (aCons (rC (.int 0)) aNil)) (rLst (aNil))))
 (zCons (zSet 4 (rBin oShl (rC (.int 1)) (rBits (rVar 1))))
 (zCons (zWhile (tAnd (tCmp oGt (rVar 4) (rC (.int 0))) (tCmp oLt (rB (cLenL K) (aCons (rVar 3) aNil)) (rVar 2)))
 (zCons (zExpr (rExtV 3 (rCall (sp_odd_multiples T) [] (aCons (rVar 0) (aCons (rVar 1) (aCons (rVar 4) (aCons (rBin oSub (rVar 2) (rB (cLenL K) (aCons (rVar 3) aNil))) aNil)))))))
 (zAug 4 oShr (rC (.int 1)))))
 (zRet (rVar 3)))))))
@[irreducible] def sp_strongest (T : All base K mg) : Sp := rFn 3 ["low", "high", "count", "found", "power"] (t_strongest T)
theorem ok_strongest (T : All base K mg) : Cal P w K mg base "strongest" 4 ["low", "high", "count"] [] (sp_strongest T) := by
 delta sp_strongest; exact T.strongest.rcal sc_strongest fun cd A outer s H1 E1 =>
 (z_cons (z_expr (s_call (ok_want_version T) (a_cons (s_var (i := 0) rfl (.inl rfl)) a_nil)))
 (z_cons (z_expr (s_call (ok_want_version T) (a_cons (s_var (i := 1) rfl (.inl rfl)) a_nil)))
 (z_cons (z_expr (s_call (ok_want_number T) (a_cons (s_var (i := 2) rfl (.inl rfl)) (a_cons s_int a_nil))))
 (z_cons (z_set sc_strongest.nd rfl (s_if (b_ww (w_and (b_cmp o_eqI (s_var (i := 0) rfl (.inl rfl)) s_int) (w_and1 (b_cmp o_gt (s_var (i := 2) rfl (.inl rfl)) s_int)))) (s_lst (a_cons s_int a_nil)) (s_lst a_nil)))
 (z_cons (z_set sc_strongest.nd rfl (s_bin o_shl s_int (s_bits (s_var (i := 1) rfl (.inl rfl)))))
 (z_cons (z_while (b_ww (w_and (b_cmp o_gt (s_var (i := 4) rfl (.inl rfl)) s_int) (w_and1 (b_cmp o_lt (s_bi c_lenL T.n_len PySem.boot_len (a_cons (s_var (i := 3) rfl (.inl rfl)) a_nil)) (s_var (i := 2) rfl (.inl rfl))))))
 (z_cons (z_expr (s_extV (i := 3) rfl (.inl rfl) (s_call (ok_odd_multiples T) (a_cons (s_var (i := 0) rfl (.inl rfl)) (a_cons (s_var (i := 1) rfl (.inl rfl)) (a_cons (s_var (i := 4) rfl (.inl rfl)) (a_cons (s_bin o_sub (s_var (i := 2) rfl (.inl rfl)) (s_bi c_lenL T.n_len PySem.boot_len (a_cons (s_var (i := 3) rfl (.inl rfl)) a_nil))) a_nil)))))))
 (z_one (z_aug i_shr sc_strongest.nd rfl s_int))))
 (z_one (z_ret (s_var (i := 3) rfl (.inl rfl))))))))))
def t_count_multiples (T : All base K mg) : RS :=
 zCons (zExpr (rCall (sp_want_version T) [] (aCons (rVar 0) aNil)))
 (zCons (zExpr (rCall (sp_want_version T) [] (aCons (rVar 1) aNil)))
 (zCons (zExpr (rCall (sp_want_number T) [] (aCons (rVar 2) (aCons (rC (.int 1)) aNil))))
 (zRet (rIf (tCmp oLe (rVar 0) (rVar 1)) (rBin oSub (rBin oDiv (rVar 1) (rVar 2)) (rBin oDiv (rBin oSub (rVar 0) (rC (.int 1))) (rVar 2))) (rC (.int 0))))))
@[irreducible] def sp_count_multiples (T : All base K mg) : Sp := rFn 3 ["low", "high", "divisor"] (t_count_multiples T)
theorem ok_count_multiples (T : All base K mg) : Cal P w K mg base "count_multiples" 4 ["low", "high", "divisor"] [] (sp_count_multiples T) := by
 delta sp_count_multiples; exact T.count_multiples.rcal sc_count_multiples fun cd A outer s H1 E1 =>
 (z_cons (z_expr (s_call (ok_want_version T) (a_cons (s_var (i := 0) rfl (.inl rfl)) a_nil)))
 (z_cons (z_expr (s_call (ok_want_version T) (a_cons (s_var (i := 1) rfl (.inl rfl)) a_nil)))
 (z_cons (z_expr (s_call (ok_want_number T) (a_cons (s_var (i := 2) rfl (.inl rfl)) (a_cons s_int a_nil))))
 (z_one (z_ret (s_if (b_cmp o_le (s_var (i := 0) rfl (.inl rfl)) (s_var (i := 1) rfl (.inl rfl))) (s_bin o_sub (s_bin o_div (s_var (i := 1) rfl (.inl rfl)) (s_var (i := 2) rfl (.inl rfl))) (s_bin o_div (s_bin o_sub (s_var (i := 0) rfl (.inl rfl)) s_int) (s_var (i := 2) rfl (.inl rfl)))) s_int))))))
def t_count_stronger (T : All base K mg) : RS :=
 zCons (zExpr (rCall (sp_want_version T) [] (aCons (rVar 0) aNil)))
 (zCons (zExpr (rCall (sp_want_version T) [] (aCons (rVar 1) aNil)))
 (zCons (zExpr (rCall (sp_want_version T) [] (aCons (rVar 2) aNil)))
 (zCons (zIf (tCmp oEqI (rVar 0) (rC (.int 0)))
 (zRet (rC (.int 0)))
 (zNil))
 (zCons (zSet 3 (rCall (sp_lowest_bit T) [] (aCons (rVar 0) aNil)))
 (zCons (zSet 4 (rB cMax (aCons (rVar 1) (aCons (rBin oAdd (rVar 0) (rC (.int 1))) aNil))))
 (zCons (zSet 5 (rBin oSub (rCall (sp_count_multiples T) [] (aCons (rVar 4) (aCons (rVar 2) (aCons (rVar 3) aNil)))) (rCall (sp_count_multiples T) [] (aCons (rVar 4) (aCons (rVar 2) (aCons (rBin oMul (rC (.int 2)) (rVar 3)) aNil))))))
 (zRet (rBin oAdd (rCall (sp_count_multiples T) [] (aCons (rVar 1) (aCons (rVar 2) (aCons (rBin oMul (rC (.int 2)) (rVar 3)) aNil)))) (rVar 5)))))))))
@[irreducible] def sp_count_stronger (T : All base K mg) : Sp := rFn 3 ["version", "low", "high", "own_step", "above", "alike"] (t_count_stronger T)
theorem ok_count_stronger (T : All base K mg) : Cal P w K mg base "count_stronger" 5 ["version", "low", "high"] [] (sp_count_stronger T) := by
 delta sp_count_stronger; exact T.count_stronger.rcal sc_count_stronger fun cd A outer s H1 E1 =>
 (z_cons (z_expr (s_call (ok_want_version T) (a_cons (s_var (i := 0) rfl (.inl rfl)) a_nil)))
 (z_cons (z_expr (s_call (ok_want_version T) (a_cons (s_var (i := 1) rfl (.inl rfl)) a_nil)))
 (z_cons (z_expr (s_call (ok_want_version T) (a_cons (s_var (i := 2) rfl (.inl rfl)) a_nil)))
 (z_cons (z_if (b_cmp o_eqI (s_var (i := 0) rfl (.inl rfl)) s_int)
 (z_one (z_ret s_int))
 z_nil)
 (z_cons (z_set sc_count_stronger.nd rfl (s_call (ok_lowest_bit T) (a_cons (s_var (i := 0) rfl (.inl rfl)) a_nil)))
 (z_cons (z_set sc_count_stronger.nd rfl (s_bi c_max T.n_max PyProof.Rows.boot_max (a_cons (s_var (i := 1) rfl (.inl rfl)) (a_cons (s_bin o_add (s_var (i := 0) rfl (.inl rfl)) s_int) a_nil))))
 (z_cons (z_set sc_count_stronger.nd rfl (s_bin o_sub (s_call (ok_count_multiples T) (a_cons (s_var (i := 4) rfl (.inl rfl)) (a_cons (s_var (i := 2) rfl (.inl rfl)) (a_cons (s_var (i := 3) rfl (.inl rfl)) a_nil)))) (s_call (ok_count_multiples T) (a_cons (s_var (i := 4) rfl (.inl rfl)) (a_cons (s_var (i := 2) rfl (.inl rfl)) (a_cons (s_bin o_mul s_int (s_var (i := 3) rfl (.inl rfl))) a_nil))))))
 (z_one (z_ret (s_bin o_add (s_call (ok_count_multiples T) (a_cons (s_var (i := 1) rfl (.inl rfl)) (a_cons (s_var (i := 2) rfl (.inl rfl)) (a_cons (s_bin o_mul s_int (s_var (i := 3) rfl (.inl rfl))) a_nil)))) (s_var (i := 5) rfl (.inl rfl))))))))))))
def sp__law_pot (K : PySem.W.Frag) : Sp := fun vs H Q _ => ∃ (a : Addr) (ns : List Int) (k : Int), vs = [.ref a, .int k] ∧ SqL K H a (ns.map V.int) ∧ 0 ≤ k ∧ k ≤ 100 ∧ ∀ p, H p = none → Q (.ref p) (upd H p (pot p))
theorem ok__law_pot (T : All base K mg) : Cal P w K mg base "_law_pot" 1 ["_law_script", "_law_k"] [] (sp__law_pot K) := by
  refine T._law_pot.cal sc__law_pot (fun vs H Q E h => ?_) fun cd A outer s H1 E1 W vs H Q E c o hW h => ?_
  · obtain ⟨_, _, _, rfl, _⟩ := h; rfl
  obtain ⟨a, ns, k, rfl, hs, k0, k1, q⟩ := h
  show WSs _ _ _ [_, _, _] _
  -- _law_cell = _law_script[_law_k] if _law_k < len(_law_script) else 0
  refine wss_cons (ws_set (i := 2) sc__law_pot.nd rfl ?_)
  refine EV.we (v := .int (if h : k < ns.length then ns[k.toNat]'(by omega) else 0)) (ev_if (et_cmp (ev_var (i := 1) rfl (.inl rfl) rfl) (ev_callB T.n_len PySem.boot_len (ea_cons (ev_var (i := 0) rfl (.inl rfl) rfl) ea_nil) (ec_lenL hs)) eo_lt) (fun h => ?_) fun h => ?_) ?_
  · have h : k < ns.length := by simpa using h
    rw [dif_pos h]
    refine (ev_ixL (ev_var (i := 0) rfl (.inl rfl) rfl) (ev_var (i := 1) rfl (.inl rfl) rfl) hs ?_)
    obtain ⟨n, rfl⟩ := Int.eq_ofNat_of_zero_le k0
    exact atI_nat (by simp [show n < ns.length by omega])
  · have h : ¬ k < ns.length := by simpa using h
    rw [dif_neg h]
    exact ev_int
  generalize (if h : k < ns.length then ns[k.toNat]'(by omega) else 0) = z
  show WSs _ _ _ [_, _, _] _
  -- return [max(0, abs(_law_cell) - 10 ** 18), (abs(_law_cell) % 2147483477 + 101 * _law_k + 3) ** 2 % 2147483399 + 1]
  have hm := Int.emod_nonneg (if z < 0 then -z else z) (show (2147483477 : Int) ≠ 0 by decide)
  have hm2 := Int.emod_lt_of_pos (if z < 0 then -z else z) (show (0 : Int) < 2147483477 by decide)
  refine wss_one (ws_retF ?_)
  refine we_pot ?_
  refine EN.we (en_lst (ea_cons (ev_callB T.n_max PyProof.Rows.boot_max (ea_cons ev_int (ea_cons (ev_bin (ev_callB T.n_abs boot_abs (ea_cons (ev_var (i := 2) rfl (.inl rfl) rfl) ea_nil) ec_abs) (ev_bin ev_int ev_int (eo_pow (by walk_at "G:pow"))) eo_sub) ea_nil)) (ec_max rfl)) (ea_cons (ev_bin (ev_bin (ev_bin (ev_bin (ev_bin (ev_bin (ev_callB T.n_abs boot_abs (ea_cons (ev_var (i := 2) rfl (.inl rfl) rfl) ea_nil) ec_abs) ev_int (eo_mod (by walk_at "G:mod"))) (ev_bin ev_int (ev_var (i := 1) rfl (.inl rfl) rfl) (eo_mul (by walk_at "G:mul"))) eo_add) ev_int eo_add) ev_int (eo_pow (by walk_at "G:pow"))) ev_int (eo_mod (by walk_at "G:mod"))) ev_int eo_add) ea_nil)) (lenle rfl)) fun p0 n0 => ?_
  refine ⟨p0, _, _, upd_same, ⟨by split <;> omega, by omega, by omega⟩, _, ?_, q p0 n0⟩
  rw [upd_upd]
  exact Ex.refl _
def sp__law_digit : Sp := fun vs H Q _ => ∃ p m, vs = [.ref p, .int m] ∧ H p = some (pot p) ∧ DigOk m ∧ ∀ d, 0 ≤ d → d < m → Q (.int d) H
theorem ok__law_digit (T : All base K mg) : Cal P w K mg base "_law_digit" 1 ["_law_pot_here", "_law_many"] [] sp__law_digit := by
  refine T._law_digit.cal sc__law_digit (fun vs H Q E h => ?_) fun cd A outer s H1 E1 W vs H Q E c o hW h => ?_
  · obtain ⟨_, _, rfl, _⟩ := h; rfl
  obtain ⟨p, m, rfl, hp, hm, q⟩ := h
  show WSs _ _ _ [_, _, _] _
  refine wss_pot hp fun a b ok => ?_
  obtain ⟨a0, b0, b1⟩ := ok
  have q1 : ∀ a, Q (.int (a % m)) H := fun a => q _ (Int.emod_nonneg _ (by have := hm.1; omega)) (Int.emod_lt_of_pos _ hm.1)
  have fin : ∀ (a b : Int), upd (upd H p (.lst [.int a, .int b])) p (pot p) = H := fun a b => by rw [upd_upd, upd_id hp]
  -- if _law_pot_here[0] > 0:
  refine wss_cons (ws_ifE (et_cmp (ev_ixL (ev_var (i := 0) rfl (.inl rfl) rfl) ev_int (by walk_at "G:heap") (by walk_at "G:ix")) ev_int eo_gt) (fun h0 => ?_) (fun h0 => ?_))
  · -- _law_pot_here[0], _law_digit_here = divmod(_law_pot_here[0], _law_many)
    have h0 : 0 < a := by simpa using h0
    refine wss_cons (ws_asg ?_)
    refine we_callB T.n_divmod PyProof.Rows.boot_divmod ?_
    refine EA.wa (ea_cons (ev_ixL (ev_var (i := 0) rfl (.inl rfl) rfl) ev_int (by walk_at "G:heap") (by walk_at "G:ix")) (ea_cons (ev_var (i := 1) rfl (.inl rfl) rfl) ea_nil)) ?_
    refine CN.wc (cn_divmod (dig_div hm)) fun p1 n1 => ?_
    -- target (_law_pot_here[0], _law_digit_here)
    have hp1 : upd (upd H p (.lst [.int a, .int b])) p1 (.tup [.int (a / m), .int (a % m)]) p = some (.lst [.int a, .int b]) := hp_ne n1 upd_same
    refine wg_tup (by walk_at "G:heap") (wgs_cons (wg_ixL (j := 0) (ev_var (i := 0) rfl (.inl rfl) rfl) ev_int hp1 rfl ?_))
    refine wgs_cons (wg_name (i := 2) sc__law_digit.nd rfl (wgs_nil ?_))
    show WSs _ _ _ [_, _, _] _
    -- return _law_digit_here
    refine wss_one (ws_retF (we_pot (EV.we (ev_var (i := 2) rfl (.inl rfl) rfl) ?_)))
    refine pot_end hp ?_ upd_same ⟨Int.ediv_nonneg a0 (Int.le_of_lt hm.1), b0, b1⟩ (q1 a)
    walk_at "G:exb"
  · refine wss_nilF ⟨_, Ex.refl _, ?_⟩
    show WSs _ _ _ [_, _, _] _
    have e1 := Int.emod_nonneg (b * 48271 + 10037) (show (2147483587 : Int) ≠ 0 by decide)
    have e2 := Int.emod_lt_of_pos (b * 48271 + 10037) (show (0 : Int) < 2147483587 by decide)
    -- _law_pot_here[1] = (_law_pot_here[1] * 48271 + 10037) % 2147483587
    refine wss_cons (ws_asg ?_)
    refine EV.we (ev_bin (ev_bin (ev_bin (ev_ixL (ev_var (i := 0) rfl (.inl rfl) rfl) ev_int (by walk_at "G:heap") (by walk_at "G:ix")) ev_int (eo_mul (by walk_at "G:mul"))) ev_int eo_add) ev_int (eo_mod (by walk_at "G:mod"))) ?_
    refine wg_ixL (j := 1) (ev_var (i := 0) rfl (.inl rfl) rfl) ev_int upd_same rfl ?_
    show WSs _ _ _ [_, _, _] _
    -- return _law_pot_here[1] * _law_pot_here[1] % 2147483563 // 5 % _law_many
    generalize (b * 48271 + 10037) % 2147483587 = z at e1 e2 ⊢
    refine wss_one (ws_retF (we_pot (EV.we (ev_bin (ev_bin (ev_bin (ev_bin (ev_ixL (ev_var (i := 0) rfl (.inl rfl) rfl) ev_int (by walk_at "G:heap") (by walk_at "G:ix")) (ev_ixL (ev_var (i := 0) rfl (.inl rfl) rfl) ev_int (by walk_at "G:heap") (by walk_at "G:ix")) (eo_mul (by walk_at "G:mul"))) ev_int (eo_mod (by walk_at "G:mod"))) ev_int (eo_fdiv (by walk_at "G:fdiv"))) (ev_var (i := 1) rfl (.inl rfl) rfl) (eo_mod hm.1)) ?_)))
    refine pot_end hp ?_ upd_same ⟨a0, e1, by omega⟩ (q1 (z * z % 2147483563 / 5))
    walk_at "G:exb"
def sp__law_pick : Sp := fun vs H Q _ => ∃ p l xs, vs = [.ref p, .ref l] ∧ H p = some (pot p) ∧ H l = some (.lst xs) ∧ 0 < xs.length ∧ xs.length ≤ 1000 ∧ ∀ v, v ∈ xs → Q v H
theorem ok__law_pick (T : All base K mg) : Cal P w K mg base "_law_pick" 2 ["_law_pot_here", "_law_some"] [] sp__law_pick := by
  refine T._law_pick.cal sc__law_pick (fun vs H Q E h => ?_) fun cd A outer s H1 E1 W vs H Q E c o hW h => ?_
  · obtain ⟨_, _, _, rfl, _⟩ := h; rfl
  obtain ⟨p, l, xs, rfl, hp, hl, hn, hz, q⟩ := h
  show WSs _ _ _ [_, _] _
  -- return _law_some[_law_digit(_law_pot_here, len(_law_some))]
  refine wss_one (ws_ret ?_)
  refine we_ix ix_list ?_
  refine EV.we (ev_var (i := 1) rfl (.inl rfl) rfl) ?_
  refine we_call (ok__law_digit T) c ?_
  refine EA.wa (ea_cons (ev_var (i := 0) rfl (.inl rfl) rfl) (ea_cons (ev_callB T.n_len PySem.boot_len (ea_cons (ev_var (i := 1) rfl (.inl rfl) rfl) ea_nil) (ec_lenL (by walk_at "G:heap"))) ea_nil)) ?_
  refine ⟨_, _, rfl, by walk_at "G:heap", by walk_at "G:dig", fun d0 g0 l0 => ?_⟩
  obtain ⟨n, rfl⟩ := Int.eq_ofNat_of_zero_le g0
  have hlt : n < xs.length := by omega
  exact fun H3 x3 => ⟨l, xs, _, xs[n], rfl, rfl, .of (x3 _ _ hl), atI_nat (by simp [hlt]), H, x3, q _ (List.getElem_mem hlt)⟩
def t__law_first_power (T : All base K mg) : RS :=
 zCons (zSet 1 (rC (.int 1)))
 (zCons (zFor (iR1 (aCons (rBits (rVar 0)) aNil)) (gName 2)
 (zIf (tCmp oEqI (rBin oMod (rVar 0) (rBin oAdd (rVar 1) (rVar 1))) (rC (.int 0)))
 (zSet 1 (rBin oAdd (rVar 1) (rVar 1)))
 (zRet (rVar 1))))
 (zRet (rVar 1)))
@[irreducible] def sp__law_first_power (T : All base K mg) : Sp := rFn 1 ["_law_version", "_law_found", "_law_k"] (t__law_first_power T)
theorem ok__law_first_power (T : All base K mg) : Cal P w K mg base "_law_first_power" 1 ["_law_version"] [] (sp__law_first_power T) := by
 delta sp__law_first_power; exact T._law_first_power.rcal sc__law_first_power fun cd A outer s H1 E1 =>
 (z_cons (z_set sc__law_first_power.nd rfl s_int)
 (z_cons (z_for (i_R1 T.n_range (a_cons (s_bits (s_var (i := 0) rfl (.inl rfl))) a_nil)) (g_name sc__law_first_power.nd rfl)
 (z_one (z_if (b_cmp o_eqI (s_bin o_mod (s_var (i := 0) rfl (.inl rfl)) (s_bin o_add (s_var (i := 1) rfl (.inl rfl)) (s_var (i := 1) rfl (.inl rfl)))) s_int)
 (z_one (z_set sc__law_first_power.nd rfl (s_bin o_add (s_var (i := 1) rfl (.inl rfl)) (s_var (i := 1) rfl (.inl rfl)))))
 (z_one (z_ret (s_var (i := 1) rfl (.inl rfl)))))))
 (z_one (z_ret (s_var (i := 1) rfl (.inl rfl))))))
def t__law_own_key (T : All base K mg) : RS :=
 zCons (zIf (tCmp oEqI (rVar 0) (rC (.int 0)))
 (zRet (rTup (aCons (rC (.int 1)) (aCons (rC (.int 0)) (aCons (rC (.int 0)) aNil)))))
 (zNil))
 (zRet (rTup (aCons (rC (.int 0)) (aCons (rCall (sp__law_first_power T) [] (aCons (rVar 0) aNil)) (aCons (rVar 0) aNil)))))
@[irreducible] def sp__law_own_key (T : All base K mg) : Sp := rFn 1 ["_law_version"] (t__law_own_key T)
theorem ok__law_own_key (T : All base K mg) : Cal P w K mg base "_law_own_key" 2 ["_law_version"] [] (sp__law_own_key T) := by
 delta sp__law_own_key; exact T._law_own_key.rcal sc__law_own_key fun cd A outer s H1 E1 =>
 (z_cons (z_if (b_cmp o_eqI (s_var (i := 0) rfl (.inl rfl)) s_int)
 (z_one (z_ret (s_tup (a_cons s_int (a_cons s_int (a_cons s_int a_nil))))))
 z_nil)
 (z_one (z_ret (s_tup (a_cons s_int (a_cons (s_call (ok__law_first_power T) (a_cons (s_var (i := 0) rfl (.inl rfl)) a_nil)) (a_cons (s_var (i := 0) rfl (.inl rfl)) a_nil)))))))
def t__law_begin (T : All base K mg) : RS :=
 zCons (zSet 1 (rBin oShl (rC (.int 1)) (rCall sp__law_digit [] (aCons (rVar 0) (aCons (rC (.int 199)) aNil)))))
 (zCons (zSet 2 (rLst (aCons (rCall sp__law_digit [] (aCons (rVar 0) (aCons (rC (.int 40)) aNil))) (aCons (rBin oSub (rBin oAdd (rVar 1) (rCall sp__law_digit [] (aCons (rVar 0) (aCons (rC (.int 3)) aNil)))) (rC (.int 1))) (aCons (rCall sp__law_digit [] (aCons (rVar 0) (aCons (rBin oPow (rC (.int 10)) (rC (.int 59))) aNil))) (aCons (rB cMax (aCons (rC (.int 0)) (aCons (rBin oSub (rVar 1) (rC (.int 70))) aNil))) aNil))))))
 (zRet (rBin (oIxL K) (rVar 2) (rCall sp__law_digit [] (aCons (rVar 0) (aCons (rC (.int 4)) aNil))))))
@[irreducible] def sp__law_begin (T : All base K mg) : Sp := rFn 1 ["_law_pot_here", "_law_power", "_law_some"] (t__law_begin T)
theorem ok__law_begin (T : All base K mg) : Cal P w K mg base "_law_begin" 2 ["_law_pot_here"] [] (sp__law_begin T) := by
 delta sp__law_begin; exact T._law_begin.rcal sc__law_begin fun cd A outer s H1 E1 =>
 (z_cons (z_set sc__law_begin.nd rfl (s_bin o_shl s_int (s_call (ok__law_digit T) (a_cons (s_var (i := 0) rfl (.inl rfl)) (a_cons s_int a_nil)))))
 (z_cons (z_set sc__law_begin.nd rfl (s_lst (a_cons (s_call (ok__law_digit T) (a_cons (s_var (i := 0) rfl (.inl rfl)) (a_cons s_int a_nil))) (a_cons (s_bin o_sub (s_bin o_add (s_var (i := 1) rfl (.inl rfl)) (s_call (ok__law_digit T) (a_cons (s_var (i := 0) rfl (.inl rfl)) (a_cons s_int a_nil)))) s_int) (a_cons (s_call (ok__law_digit T) (a_cons (s_var (i := 0) rfl (.inl rfl)) (a_cons (s_bin o_pow s_int s_int) a_nil))) (a_cons (s_bi c_max T.n_max PyProof.Rows.boot_max (a_cons s_int (a_cons (s_bin o_sub (s_var (i := 1) rfl (.inl rfl)) s_int) a_nil))) a_nil))))))
 (z_one (z_ret (s_ix x_lst (s_var (i := 2) rfl (.inl rfl)) (s_call (ok__law_digit T) (a_cons (s_var (i := 0) rfl (.inl rfl)) (a_cons s_int a_nil))))))))
theorem sl__law_near_right_0 : FnScope ["_law_version"] ["_law_version"] (lamS (pKw (pSub (pStE (pNth 3 (defBody s__law_near_right)))))) := ⟨rfl, rfl, rfl, by decide +kernel, rfl, by decide +kernel, by decide +kernel⟩
def t__law_near_right (T : All base K mg) : RS :=
 zCons (zSet 1 (rCall (sp__law_begin T) [] (aCons (rVar 0) aNil)))
 (zCons (zSet 2 (rBin oSub (rBin oAdd (rVar 1) (rCall sp__law_digit [] (aCons (rVar 0) (aCons (rC (.int 151)) aNil)))) (rC (.int 1))))
 (zCons (zPar 2 3 (aCons (rB cMax (aCons (rC (.int 0)) (aCons (rVar 2) aNil))) (aCons (rCall sp__law_digit [] (aCons (rVar 0) (aCons (rC (.int 21)) aNil))) aNil)))
 (zCons (zSet 4 (rSl (slL K) (rSortLam K ["_law_version"] (qLam "_law_near_right") (lamA (pKw (pSub (pStE (pNth 3 (defBody s__law_near_right)))))) (lamB (pKw (pSub (pStE (pNth 3 (defBody s__law_near_right)))))) (lamS (pKw (pSub (pStE (pNth 3 (defBody s__law_near_right)))))) (rCall (sp__law_own_key T) [] (aCons (rVar 0) aNil)) (rVar 1) (rBin oAdd (rVar 2) (rC (.int 1))) (aCons (rLam (lT T) (qLam "_law_near_right") (lamA (pKw (pSub (pStE (pNth 3 (defBody s__law_near_right)))))) (lamB (pKw (pSub (pStE (pNth 3 (defBody s__law_near_right)))))) (lamS (pKw (pSub (pStE (pNth 3 (defBody s__law_near_right))))))) (aCons (rC (.bl true)) aNil))) pNo (pAt (rVar 3))))
 (zCons (zSet 5 (rCall (sp_strongest T) [] (aCons (rVar 1) (aCons (rVar 2) (aCons (rVar 3) aNil)))))
 (zCons (zIf (tOr (tNot (tV (rB cIsT (aCons (rVar 5) (aCons (rC (.ty "list")) aNil))))) (tCmp oNeS (rB (cRepr K) (aCons (rVar 5) aNil)) (rB (cRepr K) (aCons (rVar 4) aNil))))
 (zRet (rC (.bl false)))
 (zNil))
 (zCons (zExpr (rAppV 5 (rVar 1)))
 (zCons (zIf (tCmp oNeS (rB (cRepr K) (aCons (rCall (sp_strongest T) [] (aCons (rVar 1) (aCons (rVar 2) (aCons (rVar 3) aNil)))) aNil)) (rB (cRepr K) (aCons (rVar 4) aNil)))
 (zRet (rC (.bl false)))
 (zNil))
 (zCons (zFor (iL K (rSl (slL K) (rVar 4) pNo (pAt (rC (.int 6))))) (gName 6)
 (zFor (iL K (rSl (slL K) (rVar 4) pNo (pAt (rC (.int 6))))) (gName 7)
 (zIf (tCmp oNeS (rB (cRepr K) (aCons (rCall (sp_precedes T) [] (aCons (rVar 6) (aCons (rVar 7) aNil))) aNil)) (rB (cRepr K) (aCons (rBin (oGtT K) (rCall (sp__law_own_key T) [] (aCons (rVar 6) aNil)) (rCall (sp__law_own_key T) [] (aCons (rVar 7) aNil))) aNil)))
 (zRet (rC (.bl false)))
 (zNil))))
 (zRet (rC (.bl true)))))))))))
@[irreducible] def sp__law_near_right (T : All base K mg) : Sp := rFn 1 ["_law_pot_here", "_law_first", "_law_last", "_law_many", "_law_due", "_law_told", "_law_one", "_law_two"] (t__law_near_right T)
theorem ok__law_near_right (T : All base K mg) : Cal P w K mg base "_law_near_right" 6 ["_law_pot_here"] [] (sp__law_near_right T) := by
 delta sp__law_near_right; exact T._law_near_right.rcalC sc__law_near_right fun A outer s H1 E1 =>
 (z_cons (z_set sc__law_near_right.nd rfl (s_call (ok__law_begin T) (a_cons (s_var (i := 0) rfl (.inl rfl)) a_nil)))
 (z_cons (z_set sc__law_near_right.nd rfl (s_bin o_sub (s_bin o_add (s_var (i := 1) rfl (.inl rfl)) (s_call (ok__law_digit T) (a_cons (s_var (i := 0) rfl (.inl rfl)) (a_cons s_int a_nil)))) s_int))
 (z_cons (z_par (i := 2) (l := 3) sc__law_near_right.nd rfl rfl (a_cons (s_bi c_max T.n_max PyProof.Rows.boot_max (a_cons s_int (a_cons (s_var (i := 2) rfl (.inl rfl)) a_nil))) (a_cons (s_call (ok__law_digit T) (a_cons (s_var (i := 0) rfl (.inl rfl)) (a_cons s_int a_nil))) a_nil)))
 (z_cons (z_set sc__law_near_right.nd rfl (s_sl l_lst (s_sortLam (k := 2) T.n_sorted T.n_range (s_var (i := 1) rfl (.inl rfl)) (s_bin o_add (s_var (i := 2) rfl (.inl rfl)) s_int) sl__law_near_right_0 (fun _ _ _ _ => rfl) (fun _ _ _ _ _ _ _ => (s_call (ok__law_own_key T) (a_cons (s_var (i := 0) rfl (.inl rfl)) a_nil))) (k_cons (s_lam T.mk__law_near_right.tb T.mk__law_near_right.e (.head _) lam_hu rfl rfl (by decide +kernel)) (k_cons s_bl k_nil))) p_no (p_at (s_var (i := 3) rfl (.inl rfl)))))
 (z_cons (z_set sc__law_near_right.nd rfl (s_call (ok_strongest T) (a_cons (s_var (i := 1) rfl (.inl rfl)) (a_cons (s_var (i := 2) rfl (.inl rfl)) (a_cons (s_var (i := 3) rfl (.inl rfl)) a_nil)))))
 (z_cons (z_if (b_ww (w_or (b_not (b_val (s_bi c_isT T.n_isinstance PyProof.Rows.boot_isinstance (a_cons (s_var (i := 5) rfl (.inl rfl)) (a_cons (s_ty T.n_list PyProof.Rows.boot_list) a_nil))))) (w_or1 (b_cmp o_neS (s_repr T.n_repr (a_cons (s_var (i := 5) rfl (.inl rfl)) a_nil)) (s_repr T.n_repr (a_cons (s_var (i := 4) rfl (.inl rfl)) a_nil))))))
 (z_one (z_ret s_bl))
 z_nil)
 (z_cons (z_expr (s_appV (i := 5) rfl (.inl rfl) (s_var (i := 1) rfl (.inl rfl))))
 (z_cons (z_if (b_cmp o_neS (s_repr T.n_repr (a_cons (s_call (ok_strongest T) (a_cons (s_var (i := 1) rfl (.inl rfl)) (a_cons (s_var (i := 2) rfl (.inl rfl)) (a_cons (s_var (i := 3) rfl (.inl rfl)) a_nil)))) a_nil)) (s_repr T.n_repr (a_cons (s_var (i := 4) rfl (.inl rfl)) a_nil)))
 (z_one (z_ret s_bl))
 z_nil)
 (z_cons (z_for (i_L (s_sl l_lst (s_var (i := 4) rfl (.inl rfl)) p_no (p_at s_int))) (g_name sc__law_near_right.nd rfl)
 (z_one (z_for (i_L (s_sl l_lst (s_var (i := 4) rfl (.inl rfl)) p_no (p_at s_int))) (g_name sc__law_near_right.nd rfl)
 (z_one (z_if (b_cmp o_neS (s_repr T.n_repr (a_cons (s_call (ok_precedes T) (a_cons (s_var (i := 6) rfl (.inl rfl)) (a_cons (s_var (i := 7) rfl (.inl rfl)) a_nil))) a_nil)) (s_repr T.n_repr (a_cons (s_cmpr o_gtT (s_call (ok__law_own_key T) (a_cons (s_var (i := 6) rfl (.inl rfl)) a_nil)) (s_call (ok__law_own_key T) (a_cons (s_var (i := 7) rfl (.inl rfl)) a_nil))) a_nil)))
 (z_one (z_ret s_bl))
 z_nil)))))
 (z_one (z_ret s_bl)))))))))))
def t__law_multiples (T : All base K mg) : RS :=
 zRet (rIf (tCmp oLe (rVar 0) (rVar 1)) (rB cMax (aCons (rC (.int 0)) (aCons (rBin oAdd (rBin oSub (rBin oDiv (rVar 1) (rVar 2)) (rBin oDiv (rBin oSub (rBin oAdd (rVar 0) (rVar 2)) (rC (.int 1))) (rVar 2))) (rC (.int 1))) aNil))) (rC (.int 0)))
@[irreducible] def sp__law_multiples (T : All base K mg) : Sp := rFn 3 ["_law_first", "_law_last", "_law_power"] (t__law_multiples T)
theorem ok__law_multiples (T : All base K mg) : Cal P w K mg base "_law_multiples" 1 ["_law_first", "_law_last", "_law_power"] [] (sp__law_multiples T) := by
 delta sp__law_multiples; exact T._law_multiples.rcal sc__law_multiples fun cd A outer s H1 E1 =>
 (z_one (z_ret (s_if (b_cmp o_le (s_var (i := 0) rfl (.inl rfl)) (s_var (i := 1) rfl (.inl rfl))) (s_bi c_max T.n_max PyProof.Rows.boot_max (a_cons s_int (a_cons (s_bin o_add (s_bin o_sub (s_bin o_div (s_var (i := 1) rfl (.inl rfl)) (s_var (i := 2) rfl (.inl rfl))) (s_bin o_div (s_bin o_sub (s_bin o_add (s_var (i := 0) rfl (.inl rfl)) (s_var (i := 2) rfl (.inl rfl))) s_int) (s_var (i := 2) rfl (.inl rfl)))) s_int) a_nil))) s_int)))
def t__law_stronger (T : All base K mg) : RS :=
 zCons (zIf (tOr (tCmp oEqI (rVar 0) (rC (.int 0))) (tCmp oGt (rVar 1) (rVar 2)))
 (zRet (rC (.int 0)))
 (zNil))
 (zCons (zSet 3 (rCall (sp__law_first_power T) [] (aCons (rVar 0) aNil)))
 (zCons (zSet 4 (rB cMax (aCons (rVar 1) (aCons (rBin oAdd (rVar 0) (rC (.int 1))) aNil))))
 (zCons (zSet 5 (rBin oSub (rCall (sp__law_multiples T) [] (aCons (rVar 4) (aCons (rVar 2) (aCons (rVar 3) aNil)))) (rCall (sp__law_multiples T) [] (aCons (rVar 4) (aCons (rVar 2) (aCons (rBin oMul (rC (.int 2)) (rVar 3)) aNil))))))
 (zRet (rBin oAdd (rCall (sp__law_multiples T) [] (aCons (rVar 1) (aCons (rVar 2) (aCons (rBin oMul (rC (.int 2)) (rVar 3)) aNil)))) (rVar 5))))))
@[irreducible] def sp__law_stronger (T : All base K mg) : Sp := rFn 3 ["_law_version", "_law_first", "_law_last", "_law_power", "_law_begin_here", "_law_alike"] (t__law_stronger T)
theorem ok__law_stronger (T : All base K mg) : Cal P w K mg base "_law_stronger" 2 ["_law_version", "_law_first", "_law_last"] [] (sp__law_stronger T) := by
 delta sp__law_stronger; exact T._law_stronger.rcal sc__law_stronger fun cd A outer s H1 E1 =>
 (z_cons (z_if (b_ww (w_or (b_cmp o_eqI (s_var (i := 0) rfl (.inl rfl)) s_int) (w_or1 (b_cmp o_gt (s_var (i := 1) rfl (.inl rfl)) (s_var (i := 2) rfl (.inl rfl))))))
 (z_one (z_ret s_int))
 z_nil)
 (z_cons (z_set sc__law_stronger.nd rfl (s_call (ok__law_first_power T) (a_cons (s_var (i := 0) rfl (.inl rfl)) a_nil)))
 (z_cons (z_set sc__law_stronger.nd rfl (s_bi c_max T.n_max PyProof.Rows.boot_max (a_cons (s_var (i := 1) rfl (.inl rfl)) (a_cons (s_bin o_add (s_var (i := 0) rfl (.inl rfl)) s_int) a_nil))))
 (z_cons (z_set sc__law_stronger.nd rfl (s_bin o_sub (s_call (ok__law_multiples T) (a_cons (s_var (i := 4) rfl (.inl rfl)) (a_cons (s_var (i := 2) rfl (.inl rfl)) (a_cons (s_var (i := 3) rfl (.inl rfl)) a_nil)))) (s_call (ok__law_multiples T) (a_cons (s_var (i := 4) rfl (.inl rfl)) (a_cons (s_var (i := 2) rfl (.inl rfl)) (a_cons (s_bin o_mul s_int (s_var (i := 3) rfl (.inl rfl))) a_nil))))))
 (z_one (z_ret (s_bin o_add (s_call (ok__law_multiples T) (a_cons (s_var (i := 1) rfl (.inl rfl)) (a_cons (s_var (i := 2) rfl (.inl rfl)) (a_cons (s_bin o_mul s_int (s_var (i := 3) rfl (.inl rfl))) a_nil)))) (s_var (i := 5) rfl (.inl rfl)))))))))
def t__law_far_right (T : All base K mg) : RS :=
 zCons (zAsg (rTup (aCons (rCall (sp__law_begin T) [] (aCons (rVar 0) aNil)) (aCons (rBin (oIxL K) (rLst (aCons (rCall sp__law_digit [] (aCons (rVar 0) (aCons (rC (.int 41)) aNil))) (aCons (rC (.int 300)) aNil))) (rBin oDiv (rCall sp__law_digit [] (aCons (rVar 0) (aCons (rC (.int 9)) aNil))) (rC (.int 8)))) aNil))) (gTup K 2 (gCons (gName 1) (gCons (gName 2) gNil))))
 (zCons (zSet 3 (rLst (aCons (rCall sp__law_digit [] (aCons (rVar 0) (aCons (rBin oPow (rC (.int 10)) (rC (.int 59))) aNil))) (aCons (rCall sp__law_digit [] (aCons (rVar 0) (aCons (rBin oPow (rC (.int 10)) (rC (.int 9))) aNil))) (aCons (rBin oShl (rC (.int 1)) (rCall sp__law_digit [] (aCons (rVar 0) (aCons (rC (.int 190)) aNil)))) aNil)))))
 (zCons (zSet 4 (rBin oAdd (rVar 1) (rCall sp__law_pick [] (aCons (rVar 0) (aCons (rVar 3) aNil)))))
 (zCons (zSet 5 (rCall (sp_strongest T) [] (aCons (rVar 1) (aCons (rVar 4) (aCons (rVar 2) aNil)))))
 (zCons (zIf (tCmp oNeI (rB (cLenL K) (aCons (rVar 5) aNil)) (rB cMin (aCons (rVar 2) (aCons (rBin oAdd (rBin oSub (rVar 4) (rVar 1)) (rC (.int 1))) aNil))))
 (zRet (rC (.bl false)))
 (zNil))
 (zCons (zIf (tNot (tV (rB (cAll K) (aCons (rLc (iL K (rVar 5)) (gName 6) tY (rCh oLe oLe (rVar 1) (rVar 6) (rVar 4)) [6]) aNil))))
 (zRet (rC (.bl false)))
 (zNil))
 (zCons (zSet 7 (rLc (iL K (rVar 5)) (gName 6) tY (rCall (sp__law_own_key T) [] (aCons (rVar 6) aNil)) [6]))
 (zCons (zIf (tNot (tV (rB (cAll K) (aCons (rLc (iZp K (aCons (rVar 7) (aCons (rSl (slL K) (rVar 7) (pAt (rC (.int 1))) pNo) aNil))) (gTup K 2 (gCons (gName 6) (gCons (gName 8) gNil))) tY (rBin (oGtT K) (rVar 6) (rVar 8)) [6, 8]) aNil))))
 (zRet (rC (.bl false)))
 (zNil))
 (zCons (zFor (iEn K (aCons (rVar 5) aNil)) (gTup K 2 (gCons (gName 9) (gCons (gName 10) gNil)))
 (zIf (tCmp (oNeD K) (rLst (aCons (rCall (sp__law_stronger T) [] (aCons (rVar 10) (aCons (rVar 1) (aCons (rVar 4) aNil)))) (aCons (rCall (sp_count_stronger T) [] (aCons (rVar 10) (aCons (rVar 1) (aCons (rVar 4) aNil)))) aNil))) (rLst (aCons (rVar 9) (aCons (rVar 9) aNil))))
 (zRet (rC (.bl false)))
 (zNil)))
 (zCons (zSet 11 (rCall (sp_strongest T) [] (aCons (rVar 1) (aCons (rVar 4) (aCons (rVar 2) aNil)))))
 (zCons (zExpr (rAppV 5 (rVar 1)))
 (zCons (zIf (tOr (tCmp (oNeD K) (rVar 11) (rSl (slL K) (rVar 5) pNo (pAt (rNeg (rC (.int 1)))))) (tCmp (oNeD K) (rCall (sp_strongest T) [] (aCons (rVar 1) (aCons (rVar 4) (aCons (rVar 2) aNil)))) (rVar 11)))
 (zRet (rC (.bl false)))
 (zNil))
 (zRet (rOr (rBin oEqI (rVar 1) (rVar 4)) (rAnd (rBin oEqI (rCall (sp_count_stronger T) [] (aCons (rBin oAdd (rCall (sp__law_begin T) [] (aCons (rVar 0) aNil)) (rC (.int 1))) (aCons (rVar 4) (aCons (rVar 1) aNil)))) (rC (.int 0))) (rBin (oEqD K) (rCall (sp_strongest T) [] (aCons (rVar 4) (aCons (rVar 1) (aCons (rC (.int 9)) aNil)))) (rLst (aNil)))))))))))))))))
@[irreducible] def sp__law_far_right (T : All base K mg) : Sp := rFn 1 ["_law_pot_here", "_law_first", "_law_many", "_law_spans", "_law_last", "_law_told", "_law_one", "_law_keys", "_law_two", "_law_at", "_law_version", "_law_again"] (t__law_far_right T)
theorem ok__law_far_right (T : All base K mg) : Cal P w K mg base "_law_far_right" 6 ["_law_pot_here"] [] (sp__law_far_right T) := by
 delta sp__law_far_right; exact T._law_far_right.rcal sc__law_far_right fun cd A outer s H1 E1 =>
 (z_cons (z_asg (s_tup (a_cons (s_call (ok__law_begin T) (a_cons (s_var (i := 0) rfl (.inl rfl)) a_nil)) (a_cons (s_ix x_lst (s_lst (a_cons (s_call (ok__law_digit T) (a_cons (s_var (i := 0) rfl (.inl rfl)) (a_cons s_int a_nil))) (a_cons s_int a_nil))) (s_bin o_div (s_call (ok__law_digit T) (a_cons (s_var (i := 0) rfl (.inl rfl)) (a_cons s_int a_nil))) s_int)) a_nil))) (g_tup (gs_cons (g_name sc__law_far_right.nd rfl) (gs_cons (g_name sc__law_far_right.nd rfl) gs_nil))))
 (z_cons (z_set sc__law_far_right.nd rfl (s_lst (a_cons (s_call (ok__law_digit T) (a_cons (s_var (i := 0) rfl (.inl rfl)) (a_cons (s_bin o_pow s_int s_int) a_nil))) (a_cons (s_call (ok__law_digit T) (a_cons (s_var (i := 0) rfl (.inl rfl)) (a_cons (s_bin o_pow s_int s_int) a_nil))) (a_cons (s_bin o_shl s_int (s_call (ok__law_digit T) (a_cons (s_var (i := 0) rfl (.inl rfl)) (a_cons s_int a_nil)))) a_nil)))))
 (z_cons (z_set sc__law_far_right.nd rfl (s_bin o_add (s_var (i := 1) rfl (.inr (.inl rfl))) (s_call (ok__law_pick T) (a_cons (s_var (i := 0) rfl (.inl rfl)) (a_cons (s_var (i := 3) rfl (.inl rfl)) a_nil)))))
 (z_cons (z_set sc__law_far_right.nd rfl (s_call (ok_strongest T) (a_cons (s_var (i := 1) rfl (.inr (.inl rfl))) (a_cons (s_var (i := 4) rfl (.inr (.inl rfl))) (a_cons (s_var (i := 2) rfl (.inl rfl)) a_nil)))))
 (z_cons (z_if (b_cmp o_neI (s_bi c_lenL T.n_len PySem.boot_len (a_cons (s_var (i := 5) rfl (.inl rfl)) a_nil)) (s_bi c_min T.n_min PyProof.Rows.boot_min (a_cons (s_var (i := 2) rfl (.inl rfl)) (a_cons (s_bin o_add (s_bin o_sub (s_var (i := 4) rfl (.inr (.inl rfl))) (s_var (i := 1) rfl (.inr (.inl rfl)))) s_int) a_nil))))
 (z_one (z_ret s_bl))
 z_nil)
 (z_cons (z_if (b_not (b_val (s_bi c_all T.n_all boot_all (a_cons (s_lc0 (own := [("_law_one", 6)]) (i_L (s_var (i := 5) rfl (.inl rfl))) sc__law_far_right.nd (blk_fx (by decide +kernel)) (fun _ _ _ _ _ => (g_name sc__law_far_right.nd rfl)) (fun _ _ _ _ _ => (s_ch o_le o_le (s_var (i := 1) (by rfl) (by walk_at "G:vis")) (s_var (i := 6) (by rfl) (by walk_at "G:vis")) (s_var (i := 4) (by rfl) (by walk_at "G:vis"))))) a_nil))))
 (z_one (z_ret s_bl))
 z_nil)
 (z_cons (z_lc0 (own := [("_law_one", 6)]) (i_L (s_var (i := 5) rfl (.inl rfl))) sc__law_far_right.nd rfl (blk_fx (by decide +kernel)) (fun _ _ _ _ _ => (g_name sc__law_far_right.nd rfl)) (fun _ _ _ _ _ => (s_call (ok__law_own_key T) (a_cons (s_var (i := 6) (by rfl) (by walk_at "G:vis")) a_nil))))
 (z_cons (z_if (b_not (b_val (s_bi c_all T.n_all boot_all (a_cons (s_lc0 (own := [("_law_one", 6), ("_law_two", 8)]) (i_Zp T.n_zip (a_cons (s_var (i := 7) rfl (.inl rfl)) (a_cons (s_sl l_lst (s_var (i := 7) rfl (.inl rfl)) (p_at s_int) p_no) a_nil))) sc__law_far_right.nd (blk_fx (by decide +kernel)) (fun _ _ _ _ _ => (g_tup (gs_cons (g_name sc__law_far_right.nd rfl) (gs_cons (g_name sc__law_far_right.nd rfl) gs_nil)))) (fun _ _ _ _ _ => (s_cmpr o_gtT (s_var (i := 6) (by rfl) (by walk_at "G:vis")) (s_var (i := 8) (by rfl) (by walk_at "G:vis"))))) a_nil))))
 (z_one (z_ret s_bl))
 z_nil)
 (z_cons (z_for (i_En T.n_enumerate (a_cons (s_var (i := 5) rfl (.inl rfl)) a_nil)) (g_tup (gs_cons (g_name sc__law_far_right.nd rfl) (gs_cons (g_name sc__law_far_right.nd rfl) gs_nil)))
 (z_one (z_if (b_cmpr2 o_neD (s_lst (a_cons (s_call (ok__law_stronger T) (a_cons (s_var (i := 10) rfl (.inl rfl)) (a_cons (s_var (i := 1) rfl (.inr (.inl rfl))) (a_cons (s_var (i := 4) rfl (.inr (.inl rfl))) a_nil)))) (a_cons (s_call (ok_count_stronger T) (a_cons (s_var (i := 10) rfl (.inl rfl)) (a_cons (s_var (i := 1) rfl (.inr (.inl rfl))) (a_cons (s_var (i := 4) rfl (.inr (.inl rfl))) a_nil)))) a_nil))) (s_lst (a_cons (s_var (i := 9) rfl (.inl rfl)) (a_cons (s_var (i := 9) rfl (.inl rfl)) a_nil))))
 (z_one (z_ret s_bl))
 z_nil)))
 (z_cons (z_set sc__law_far_right.nd rfl (s_call (ok_strongest T) (a_cons (s_var (i := 1) rfl (.inr (.inl rfl))) (a_cons (s_var (i := 4) rfl (.inr (.inl rfl))) (a_cons (s_var (i := 2) rfl (.inl rfl)) a_nil)))))
 (z_cons (z_expr (s_appV (i := 5) rfl (.inl rfl) (s_var (i := 1) rfl (.inr (.inl rfl)))))
 (z_cons (z_if (b_ww (w_or (b_cmpr2 o_neD (s_var (i := 11) rfl (.inl rfl)) (s_sl l_lst (s_var (i := 5) rfl (.inl rfl)) p_no (p_at (s_neg s_int)))) (w_or1 (b_cmpr2 o_neD (s_call (ok_strongest T) (a_cons (s_var (i := 1) rfl (.inr (.inl rfl))) (a_cons (s_var (i := 4) rfl (.inr (.inl rfl))) (a_cons (s_var (i := 2) rfl (.inl rfl)) a_nil)))) (s_var (i := 11) rfl (.inl rfl))))))
 (z_one (z_ret s_bl))
 z_nil)
 (z_one (z_ret (s_or (s_cmp o_eqI (s_var (i := 1) rfl (.inr (.inl rfl))) (s_var (i := 4) rfl (.inr (.inl rfl)))) (s_one (s_and (s_cmp o_eqI (s_call (ok_count_stronger T) (a_cons (s_bin o_add (s_call (ok__law_begin T) (a_cons (s_var (i := 0) rfl (.inl rfl)) a_nil)) s_int) (a_cons (s_var (i := 4) rfl (.inr (.inl rfl))) (a_cons (s_var (i := 1) rfl (.inr (.inl rfl))) a_nil)))) s_int) (s_one (s_cmpr2 o_eqD (s_call (ok_strongest T) (a_cons (s_var (i := 4) rfl (.inr (.inl rfl))) (a_cons (s_var (i := 1) rfl (.inr (.inl rfl))) (a_cons s_int a_nil)))) (s_lst a_nil))))))))))))))))))))
/-- if not all([_law_near_right(_law_pot_here) for _law_turn in range(3)]) or not _law_far_right(_law_pot_here): -/
def k1_law (T : All base K mg) : RS :=
 zIf (tOr (tNot (tV (rB (cAll K) (aCons (rLc (iR1 (aCons (rC (.int 3)) aNil)) (gName 3) tY (rCall (sp__law_near_right T) [] (aCons (rVar 2) aNil)) [3]) aNil)))) (tNot (tV (rCall (sp__law_far_right T) [] (aCons (rVar 2) aNil)))))
 (zRet (rC (.bl false)))
 (zNil)
/-- _law_pot_here = _law_pot(_law_script, _law_k) -/
def k2_law (T : All base K mg) : RS :=
 zCons (zSet 2 (rCall (sp__law_pot K) [] (aCons (rVar 0) (aCons (rVar 1) aNil))))
 (k1_law T)
/-- return True -/
def k3_law (T : All base K mg) : RS :=
 zRet (rC (.bl true))
def t_law (T : All base K mg) : RS :=
 zCons (zFor (iR1 (aCons (rB cMax (aCons (rC (.int 1)) (aCons (rB cMin (aCons (rC (.int 6)) (aCons (rB (cLenL K) (aCons (rVar 0) aNil)) aNil))) aNil))) aNil)) (gName 1)
 (k2_law T))
 (k3_law T)
@[irreducible] def sp_law (T : All base K mg) : Sp := rFn 1 ["_law_script", "_law_k", "_law_pot_here", "_law_turn"] (t_law T)
theorem ok_law (T : All base K mg) : FnG P w K mg base 7 T.law.f T.law.fd ["_law_script"] (sp_law T) := by
 delta sp_law; exact T.law.rfng sc_law fun cd A outer s H1 E1 =>
 (z_cons (z_for (i_R1 T.n_range (a_cons (s_bi c_max T.n_max PyProof.Rows.boot_max (a_cons s_int (a_cons (s_bi c_min T.n_min PyProof.Rows.boot_min (a_cons s_int (a_cons (s_bi c_lenL T.n_len PySem.boot_len (a_cons (s_var (i := 0) rfl (.inl rfl)) a_nil)) a_nil))) a_nil))) a_nil)) (g_name sc_law.nd rfl)
 (z_cons (z_set sc_law.nd rfl (s_call (ok__law_pot T) (a_cons (s_var (i := 0) rfl (.inl rfl)) (a_cons (s_var (i := 1) rfl (.inl rfl)) a_nil))))
 (z_one (z_if (b_ww (w_or (b_not (b_val (s_bi c_all T.n_all boot_all (a_cons (s_lc0 (own := [("_law_turn", 3)]) (i_R1 T.n_range (a_cons s_int a_nil)) sc_law.nd (blk_fx (by decide +kernel)) (fun _ _ _ _ _ => (g_name sc_law.nd rfl)) (fun _ _ _ _ _ => (s_call (ok__law_near_right T) (a_cons (s_var (i := 2) (by rfl) (by walk_at "G:vis")) a_nil)))) a_nil)))) (w_or1 (b_not (b_val (s_call (ok__law_far_right T) (a_cons (s_var (i := 2) rfl (.inr (.inl rfl))) a_nil)))))))
 (z_one (z_ret s_bl))
 z_nil))))
 (z_one (z_ret s_bl)))
end

section
variable {P : Program} {w : World} {K : PySem.W.Frag} {mg : Str → Option Value} {base : Heap}
theorem is_int_ok (T : All base K mg) {v : V} {H : Hp} {Q : VK} {E : XK} {C : String} (ht : Ty H v C) (q : Q (.bl (isInt v)) H) : sp_is_int T [v] H Q E := by
  unfold sp_is_int
  refine ⟨rfl, ?_⟩
  walk_at "vc"
  refine ⟨_, _, ht, rfl, .inl rfl, ?_⟩
  walk_at "vc"
  have e := ht.int_is
  refine ⟨fun h => ?_, fun h => ?_⟩
  · walk_at "vc"
    refine ⟨_, _, ht, rfl, .inr (.inl rfl), ?_⟩
    rw [h, Bool.true_and] at e
    exact fg.i (by rw [e]; exact q)
  · rw [h, Bool.false_and] at e
    exact fg.i (by rw [e]; exact q)
theorem is_version_ok (T : All base K mg) {v : V} {H : Hp} {Q : VK} {E : XK} {C : String} (ht : Ty H v C) (q : Q (.bl (numAt 0 v)) H) : sp_is_version T [v] H Q E := by
  unfold sp_is_version
  refine ⟨rfl, ?_⟩
  walk_at "vc"
  refine is_int_ok T ht ?_
  walk_at "vc"
  refine ⟨fun h => ?_, fun h => ?_⟩
  · cases v <;> first | cases h | skip
    walk_at "vc"
    exact fg.i q
  · refine fg.i ?_
    cases v <;> first | exact q | cases h
theorem want_version_ok (T : All base K mg) {v : V} {H : Hp} {Q : VK} {E : XK} {C : String} (ht : Ty H v C) (q : numAt 0 v = true → Q .non H) (qe : numAt 0 v = false → E (.ref T.InvalidVersion) none H) : sp_want_version T [v] H Q E := by
  unfold sp_want_version
  refine ⟨rfl, ?_⟩
  walk_at "vc"
  refine is_version_ok T ht ?_
  walk_at "vc"
  refine ⟨fun h => ⟨by decide, qe (by simpa using h)⟩, fun h => fg.i (q (by simpa using h))⟩
theorem want_version_int (T : All base K mg) {n : Int} (h : 0 ≤ n) {H : Hp} {Q : VK} {E : XK} (q : Q .non H) : sp_want_version T [.int n] H Q E :=
  want_version_ok T (.int n) (fun _ => q) fun z => (numAt_bad h z).elim
theorem want_number_ok (T : All base K mg) {v : V} {l : Int} (hl : l = 0 ∨ l = 1) {H : Hp} {Q : VK} {E : XK} {C : String} (ht : Ty H v C) (q : numAt l v = true → Q .non H) (qe : numAt l v = false → E (.ref T.InvalidNumber) none H) : sp_want_number T [v, .int l] H Q E := by
  have er : ∀ {Q : VK}, numAt l v = false → (zRaise T.InvalidNumber (aCons (rJoin [rC (.str "an integer that is at least "), rFmtI (rVar 1), rC (.str " is required")]) aNil)) { nx := fun _ H' => fg (Q .non) H', rt := fun v H' => fg (Q v) H' } (fun c d _ H' => E c d H') [some v, some (.int l)] H := fun h => by
    walk_at "vc"
    refine ⟨_, rfl, by decide, ?_⟩
    walk_at "vc"
    refine ⟨by rcases hl with rfl | rfl <;> decide, ?_⟩
    walk_at "vc"
    refine ⟨_, rfl, by rcases hl with rfl | rfl <;> decide +kernel, ?_⟩
    walk_at "vc"
    refine ⟨_, rfl, by rcases hl with rfl | rfl <;> decide +kernel, ?_⟩
    exact ⟨Nat.le_of_ble_eq_true rfl, qe h⟩
  unfold sp_want_number
  refine ⟨rfl, ?_⟩
  walk_at "vc"
  refine is_int_ok T ht ?_
  walk_at "vc"
  refine ⟨fun h => ?_, fun h => ?_⟩
  · refine ⟨fun _ => er ?_, fun h => nomatch h⟩
    cases v <;> first | rfl | cases h
  · obtain ⟨n, rfl⟩ : ∃ i, v = .int i := by cases v <;> first | exact ⟨_, rfl⟩ | cases h
    walk_at "vc"
    refine ⟨fun h => er ?_, fun h => fg.i (q ?_)⟩
    · simpa [numAt] using h
    · simpa [numAt] using h
theorem want_number_int (T : All base K mg) {n l : Int} (hl : l = 0 ∨ l = 1) (h : l ≤ n) {H : Hp} {Q : VK} {E : XK} (q : Q .non H) : sp_want_number T [.int n, .int l] H Q E :=
  want_number_ok T hl (.int n) (fun _ => q) fun z => by simp [numAt] at z; omega
theorem lowest_bit_ok (T : All base K mg) {n : Int} {H : Hp} {Q : VK} {E : XK} (q : Q (.int (lowb n)) H) : sp_lowest_bit T [.int n] H Q E := by
  unfold sp_lowest_bit
  refine ⟨rfl, ?_⟩
  walk_at "vc"
  exact fg.i q
theorem precedes_ok (T : All base K mg) {a b : Int} (ha : 0 ≤ a) (hb : 0 ≤ b) {H : Hp} {Q : VK} {E : XK} (q : Q (.bl (precB a b)) H) : sp_precedes T [.int a, .int b] H Q E := by
  unfold sp_precedes
  refine ⟨rfl, ?_⟩
  walk_at "vc"
  refine want_version_int T ha ?_
  walk_at "vc"
  refine want_version_int T hb ?_
  walk_at "vc"
  unfold precB at q
  have fin : (decide (a = 0) || decide (b = 0)) = true → zRet (rAnd (rBin oEqI (rVar 0) (rC (.int 0))) (rBin oGt (rVar 1) (rC (.int 0)))) { nx := fun _ H' => fg (Q .non) H', rt := fun v H' => fg (Q v) H' } (fun c d _ H' => E c d H') [some (.int a), some (.int b), none, none] H := fun h => by
    rw [if_pos h] at q
    walk_at "vc"
    refine ⟨fun h => fg.i ?_, fun h => fg.i ?_⟩ <;> rw [h] at q <;> exact q
  refine ⟨fun h => ⟨fun _ => fin (by rw [h]; rfl), fun h => nomatch h⟩, fun h => ?_⟩
  walk_at "vc"
  refine ⟨fun h2 => fin (by rw [show decide (b = 0) = true from h2, Bool.or_true]), fun h2 => ?_⟩
  have h2 : decide (b = 0) = false := h2
  rw [if_neg (by rw [h, h2]; decide)] at q
  walk_at "vc"
  refine lowest_bit_ok T (lowest_bit_ok T ?_)
  walk_at "vc"
  refine ⟨fun h => ?_, fun h => ?_⟩
  · rw [if_pos (of_decide_eq_true h)] at q
    exact fg.i q
  · rw [if_neg (of_decide_eq_false h)] at q
    exact fg.i q
theorem odd_multiples_ok (T : All base K mg) {low high power : Int} {n : Nat} (l0 : 0 ≤ low) (h0 : 0 ≤ high) (h1 : high < 1000000000000000000000000000000000000000000000000000000000000000) (p0 : 0 < power) (p1 : power < 10000000000000000000000000000000000000000000000000000000000000000) (n1 : n ≤ 100000)
    {H : Hp} {Q : VK} {E : XK} (q : ∀ p, H p = none → Q (.ref p) (upd H p (.lst ((oddFrom low power n (lastOf high power)).map V.int)))) : sp_odd_multiples T [.int low, .int high, .int power, .int n] H Q E := by
  unfold sp_odd_multiples
  refine ⟨rfl, ?_⟩
  have d0 : 0 ≤ high / power := Int.ediv_nonneg h0 (by omega)
  have d1 : high / power ≤ high := Int.ediv_le_self _ h0
  walk_at "vc"
  refine ⟨by walk_at "G:fdiv", ?_⟩
  walk_at "vc"
  refine ⟨show (0 : Int) < 2 by decide, ?_⟩
  walk_at "vc"
  have main : ∀ last : Int, lastOf high power = last → -1 ≤ last → last ≤ high → (zCons (zSet 5 (rLst (aNil)))
 (zCons (zWhile (tAnd (tCmp oLt (rB (cLenL K) (aCons (rVar 5) aNil)) (rVar 3)) (tAnd (tCmp oGt (rVar 4) (rC (.int 0))) (tCmp oGe (rBin oMul (rVar 4) (rVar 2)) (rVar 0))))
 (zCons (zExpr (rAppV 5 (rBin oMul (rVar 4) (rVar 2))))
 (zAug 4 oSub (rC (.int 2)))))
 (zRet (rVar 5)))) { nx := fun _ H' => fg (Q .non) H', rt := fun v H' => fg (Q v) H' } (fun c d _ H' => E c d H') [some (.int low), some (.int high), some (.int power), some (.int n), some (.int last), none] H := by
    intro last e z0 z1
    rw [e] at q
    walk_at "vc"
    refine ⟨by decide, fun fl nf => ?_⟩
    walk_at "vc"
    refine ⟨fun m σ' H2 => ∃ (acc : List Int) (l : Int), σ' = [some (.int low), some (.int high), some (.int power), some (.int n), some (.int l), some (.ref fl)] ∧ H2 = upd H fl (.lst (acc.map V.int)) ∧ acc.length ≤ n ∧ -1 ≤ l ∧ l ≤ high ∧ acc ++ oddFrom low power (n - acc.length) l = oddFrom low power n last ∧ m = n - acc.length, _, ⟨[], last, rfl, rfl, Nat.zero_le _, z0, z1, rfl, rfl⟩, ?_⟩
    rintro m σ' H2 ⟨acc, l, rfl, rfl, hl, y0, y1, ht, rfl⟩
    walk_at "vc"
    refine ⟨fl, _, rfl, .of upd_same, ?_⟩
    walk_at "vc"
    have stop : (∀ r, n - acc.length = r + 1 → ¬ (l > 0 ∧ l * power ≥ low)) → fg (Q (.ref fl)) (upd H fl (.lst (acc.map V.int))) := fun no => by
      have e : acc = oddFrom low power n last := by
        rw [← ht]
        have z : oddFrom low power (n - acc.length) l = [] := by
          cases hr : n - acc.length with
          | zero => rfl
          | succ r =>
            show (if (decide (l > 0) && decide (l * power ≥ low)) = true then l * power :: oddFrom low power r (l - 2) else []) = []
            rw [if_neg]
            simpa using no r hr
        rw [z, List.append_nil]
      rw [e]
      exact fg.i (q fl nf)
    refine ⟨fun k1 => ?_, fun k1 => ⟨(fun z => nomatch z), fun _ => stop fun r hr _ => ?_⟩⟩
    · have k1 : acc.length < n := by simp only [List.length_map, decide_eq_true_eq] at k1; omega
      walk_at "vc"
      refine ⟨fun k2 => ?_, fun k2 => ⟨(fun z => nomatch z), fun _ => stop fun r hr z => ?_⟩⟩
      · walk_at "vc"
        refine ⟨mulW ⟨by omega, by omega⟩ ⟨by omega, by omega⟩, ?_⟩
        walk_at "vc"
        refine ⟨fun k3 => ?_, fun k3 => stop fun r hr z => ?_⟩
        · walk_at "vc"
          refine ⟨⟨_, upd_same⟩, ?_⟩
          walk_at "vc"
          refine ⟨mulW ⟨by omega, by omega⟩ ⟨by omega, by omega⟩, _, upd_same, by rw [List.length_map]; omega, ?_⟩
          walk_at "vc"
          refine ⟨n - (acc.length + 1), by omega, fg.i ⟨acc ++ [l * power], l - 2, rfl, ?_, ?_, by have := of_decide_eq_true k2; omega, by omega, ?_, ?_⟩⟩
          · rw [upd_upd, List.map_append]
            rfl
          · rw [List.length_append, List.length_singleton]
            omega
          · rw [← ht, List.length_append, List.length_singleton, List.append_assoc]
            congr 1
            obtain ⟨r, hr⟩ : ∃ r, n - acc.length = r + 1 := ⟨n - acc.length - 1, by omega⟩
            rw [hr, show n - (acc.length + 1) = r by omega]
            show _ = if (decide (l > 0) && decide (l * power ≥ low)) = true then l * power :: oddFrom low power r (l - 2) else []
            rw [if_pos (by rw [show decide (l > 0) = true from k2, show decide (l * power ≥ low) = true from k3]; rfl)]
            rfl
          · rw [List.length_append, List.length_singleton]
        · exact (of_decide_eq_false k3) z.2
      · exact (of_decide_eq_false k2) z.1
    · simp only [List.length_map, decide_eq_false_iff_not] at k1
      omega
  have el : lastOf high power = if decide (high / power % 2 = 0) = true then high / power - 1 else high / power := rfl
  refine ⟨fun hk => ?_, fun hk => ?_⟩
  · walk_at "vc"
    exact main (high / power - 1) (by rw [el, if_pos hk]) (by omega) (by omega)
  · walk_at "vc"
    exact main (high / power) (by rw [el, if_neg (by rw [hk]; decide)]) (by omega) (by omega)
theorem strongest_ok (T : All base K mg) {low high : Int} {n : Nat} (l0 : 0 ≤ low) (h0 : 0 ≤ high) (h1 : high < 1000000000000000000000000000000000000000000000000000000000000000) (n1 : n ≤ 100000)
    {H : Hp} {Q : VK} {E : XK} (q : ∀ p, H p = none → Q (.ref p) (upd H p (.lst ((strongL low high n).map V.int)))) : sp_strongest T [.int low, .int high, .int n] H Q E := by
  unfold sp_strongest
  refine ⟨rfl, ?_⟩
  walk_at "vc"
  refine want_version_int T l0 ?_
  walk_at "vc"
  refine want_version_int T h0 ?_
  walk_at "vc"
  refine want_number_int T (.inl rfl) (by omega) ?_
  walk_at "vc"
  have hbits : Builtin.Int.intBits high ≤ 210 := PyProof.Rows.intBits_le (by
    have e : (2 : Nat) ^ 210 = 1645504557321206042154969182557350504982735865633579863348609024 := by decide +kernel
    rw [e]
    omega)
  have main : ∀ f0 : List Int, f0.length ≤ n → strongL low high n = strL low high n (Builtin.Int.intBits high + 1) f0 → ∀ fl, H fl = none → (zCons (zSet 4 (rBin oShl (rC (.int 1)) (rBits (rVar 1))))
 (zCons (zWhile (tAnd (tCmp oGt (rVar 4) (rC (.int 0))) (tCmp oLt (rB (cLenL K) (aCons (rVar 3) aNil)) (rVar 2)))
 (zCons (zExpr (rExtV 3 (rCall (sp_odd_multiples T) [] (aCons (rVar 0) (aCons (rVar 1) (aCons (rVar 4) (aCons (rBin oSub (rVar 2) (rB (cLenL K) (aCons (rVar 3) aNil))) aNil)))))))
 (zAug 4 oShr (rC (.int 1)))))
 (zRet (rVar 3)))) { nx := fun _ H' => fg (Q .non) H', rt := fun v H' => fg (Q v) H' } (fun c d _ H' => E c d H') [some (.int low), some (.int high), some (.int n), some (.ref fl), none] (upd H fl (.lst (f0.map V.int))) := by
    intro f0 s0 hst fl nf
    walk_at "vc"
    refine ⟨shl_fits (by omega) (by omega) (by decide) (by decide), ?_⟩
    walk_at "vc"
    refine ⟨fun m σ' H2 => ∃ f : List Int, σ' = [some (.int low), some (.int high), some (.int n), some (.ref fl), some (.int (pwR m))] ∧ H2 = upd H fl (.lst (f.map V.int)) ∧ f.length ≤ n ∧ m ≤ 211 ∧ strL low high n m f = strongL low high n, Builtin.Int.intBits high + 1, ⟨f0, ?_, rfl, s0, by omega, hst.symm⟩, ?_⟩
    · show [_, _, _, _, some (V.int (1 * 2 ^ ((Builtin.Int.intBits high : Nat) : Int).toNat))] = _
      rw [bits_pow]
      rfl
    rintro m σ' H2 ⟨f, rfl, rfl, hl, hm, ht⟩
    walk_at "vc"
    refine ⟨fun k1 => ?_, fun k1 => ⟨(fun z => nomatch z), fun _ => ?_⟩⟩
    · obtain ⟨k, rfl⟩ : ∃ k, m = k + 1 := by
        cases m with
        | zero => cases k1
        | succ k => exact ⟨k, rfl⟩
      have hp1 : (2 : Int) ^ k ≤ 2 ^ 210 := pow_mono (by omega)
      have e210 : (2 : Int) ^ 210 = 1645504557321206042154969182557350504982735865633579863348609024 := by decide +kernel
      rw [e210] at hp1
      have hp0 : (0 : Int) < 2 ^ k := Int.pow_pos (by decide)
      walk_at "vc"
      refine ⟨fl, _, rfl, .of upd_same, ?_⟩
      walk_at "vc"
      refine ⟨fun k2 => ?_, fun k2 => ?_⟩
      · have k2 : f.length < n := by have := of_decide_eq_true k2; rw [List.length_map] at this; omega
        walk_at "vc"
        refine ⟨⟨_, upd_same⟩, ?_⟩
        walk_at "vc"
        refine ⟨fl, _, rfl, .of upd_same, ?_⟩
        have e1 : (n : Int) - ((f.map V.int).length : Int) = ((n - f.length : Nat) : Int) := by rw [List.length_map]; omega
        show sp_odd_multiples T [.int low, .int high, .int (2 ^ k), .int ((n : Int) - ((f.map V.int).length : Int))] _ _ _
        rw [e1]
        refine odd_multiples_ok T l0 h0 h1 hp0 (by omega) (by omega) fun p np => ?_
        have ol := oddFrom_len (low := low) (power := 2 ^ k) (n - f.length) (lastOf high (2 ^ k))
        refine ⟨p, _, _, rfl, hp_ne np upd_same, upd_same, by rw [List.length_map, List.length_map]; omega, ?_⟩
        walk_at "vc"
        refine ⟨show (0 : Int) ≤ 1 by decide, ?_⟩
        have e := pwR_half k
        refine ⟨k, Nat.lt_succ_self _, upd H fl (.lst ((f ++ oddFrom low (2 ^ k) (n - f.length) (lastOf high (2 ^ k))).map V.int)), ?_, _, ?_, rfl, ?_, by omega, ?_⟩
        · rw [List.map_append]
          have x1 : Ex (upd H fl (.lst (f.map V.int))) (upd (upd H fl (.lst (f.map V.int))) p (.lst ((oddFrom low (2 ^ k) (n - f.length) (lastOf high (2 ^ k))).map V.int))) := Ex.put np
          have x2 := x1.set fl (.lst (f.map V.int ++ (oddFrom low (2 ^ k) (n - f.length) (lastOf high (2 ^ k))).map V.int))
          rw [upd_upd] at x2
          exact x2
        · rw [← e]; rfl
        · rw [List.length_append]
          omega
        · rw [← ht]
          show _ = if f.length < n then strL low high n k (f ++ oddFrom low (2 ^ k) (n - f.length) (lastOf high (2 ^ k))) else f
          rw [if_pos k2]
      · have k2 : ¬ f.length < n := by have := of_decide_eq_false k2; rw [List.length_map] at this; omega
        have e : f = strongL low high n := by
          rw [← ht]
          show f = if f.length < n then strL low high n k (f ++ oddFrom low (2 ^ k) (n - f.length) (lastOf high (2 ^ k))) else f
          rw [if_neg k2]
        rw [e]
        exact fg.i (q fl nf)
    · have e : f = strongL low high n := by
        rw [← ht]
        cases m with
        | zero => rfl
        | succ k => exact absurd (show (0 : Int) < 2 ^ k from Int.pow_pos (by decide)) (of_decide_eq_false k1)
      rw [e]
      exact fg.i (q fl nf)
  have nlt : ∀ k : Bool, decide ((n : Int) > 0) = k → (if k = true then [0] else [] : List Int).length ≤ n := fun k hk => by
    cases k with
    | true => have := of_decide_eq_true hk; simp; omega
    | false => simp
  have hst : ∀ a b : Bool, decide (low = 0) = a → decide ((n : Int) > 0) = b → strongL low high n = strL low high n (Builtin.Int.intBits high + 1) (if (a && b) = true then [0] else []) := fun a b ha hb => by subst ha; subst hb; rfl
  refine ⟨fun ha => ?_, fun ha => ⟨(fun z => nomatch z), fun _ => ?_⟩⟩
  · walk_at "vc"
    refine ⟨fun hb => ?_, fun hb => ?_⟩
    · walk_at "vc"
      exact ⟨Nat.le_of_ble_eq_true rfl, fun p np => main [0] (nlt true hb) (hst _ _ ha hb) p np⟩
    · walk_at "vc"
      exact ⟨Nat.le_of_ble_eq_true rfl, fun p np => main [] (Nat.zero_le _) (hst _ _ ha hb) p np⟩
  · walk_at "vc"
    exact ⟨Nat.le_of_ble_eq_true rfl, fun p np => main [] (Nat.zero_le _) (hst _ _ ha rfl) p np⟩
theorem count_multiples_ok (T : All base K mg) {l h m : Int} (l0 : 0 ≤ l) (h0 : 0 ≤ h) (m0 : 1 ≤ m) (hm : m < 1000000000000000000000000000000000000000000000000000000000000000000) {H : Hp} {Q : VK} {E : XK} (q : Q (.int (cntM l h m)) H) : sp_count_multiples T [.int l, .int h, .int m] H Q E := by
  unfold sp_count_multiples
  refine ⟨rfl, ?_⟩
  walk_at "vc"
  refine want_version_int T l0 ?_
  walk_at "vc"
  refine want_version_int T h0 ?_
  walk_at "vc"
  refine want_number_int T (.inr rfl) m0 ?_
  walk_at "vc"
  unfold cntM at q
  refine ⟨fun h => ?_, fun h => ?_⟩
  · walk_at "vc"
    refine ⟨by walk_at "G:fdiv", ?_⟩
    walk_at "vc"
    refine ⟨by walk_at "G:fdiv", fg.i ?_⟩
    rw [if_pos h] at q
    exact q
  · rw [if_neg (by rw [h]; decide)] at q
    exact fg.i q
theorem count_stronger_ok (T : All base K mg) {v l h : Int} (v0 : 0 ≤ v) (l0 : 0 ≤ l) (h0 : 0 ≤ h) (vb : v < 1000000000000000000000000000000000000000000000000000000000000000) {H : Hp} {Q : VK} {E : XK} (q : Q (.int (cntS v l h)) H) : sp_count_stronger T [.int v, .int l, .int h] H Q E := by
  unfold sp_count_stronger
  refine ⟨rfl, ?_⟩
  walk_at "vc"
  refine want_version_int T v0 ?_
  walk_at "vc"
  refine want_version_int T l0 ?_
  walk_at "vc"
  refine want_version_int T h0 ?_
  walk_at "vc"
  refine ⟨fun hz => fg.i ?_, fun hz => ?_⟩
  · have : v = 0 := of_decide_eq_true hz
    subst this
    exact q
  have hz : v ≠ 0 := of_decide_eq_false hz
  unfold cntS at q
  rw [if_neg hz] at q
  have b1 := lowb_pos (v := v) (by omega)
  have b2 := lowb_le (n := v) (by omega)
  walk_at "vc"
  refine lowest_bit_ok T ?_
  walk_at "vc"
  have u0 : 0 ≤ (if v + 1 > l then v + 1 else l) := by split <;> omega
  refine count_multiples_ok T u0 h0 b1 (by omega) ?_
  walk_at "vc"
  refine ⟨mulW ⟨by decide, by decide⟩ ⟨by omega, by omega⟩, ?_⟩
  refine count_multiples_ok T u0 h0 (by omega) (by omega) ?_
  walk_at "vc"
  refine ⟨mulW ⟨by decide, by decide⟩ ⟨by omega, by omega⟩, ?_⟩
  refine count_multiples_ok T l0 h0 (by omega) (by omega) ?_
  exact fg.i q
def Vr (v : Int) : Prop := 0 ≤ v ∧ v < 100000000000000000000000000000000000000000000000000000000000000
theorem Vr.wide {v : Int} (h : Vr v) : Wide v := ⟨by have := h.1; omega, by have := h.2; omega⟩
theorem first_power_ok (T : All base K mg) {v : Int} (v0 : 0 < v) (vr : Vr v) {H : Hp} {Q : VK} {E : XK} (q : Q (.int (lowb v)) H) : sp__law_first_power T [.int v] H Q E := by
  unfold sp__law_first_power
  refine ⟨rfl, ?_⟩
  walk_at "vc"
  have hb : Builtin.Int.intBits v ≤ 400 := vr.wide.bits
  refine ⟨⟨by omega, by omega⟩, ?_⟩
  refine forB (fun i σ' H' => H' = H ∧ v % 2 ^ i = 0 ∧ ∃ a2, σ' = [some (.int v), some (.int (2 ^ i)), a2]) ⟨rfl, Int.emod_one v, none, rfl⟩ (fun _ _ _ _ _ => trivial) (fun i σ' H' hi P => ?_) (fun σ' H' P => ?_)
  · obtain ⟨rfl, md, a2, rfl⟩ := P
    have s0 : (0 : Int) < 2 ^ i := Int.pow_pos (by decide)
    have e2 : (2 : Int) ^ (i + 1) = 2 ^ i + 2 ^ i := by rw [Int.pow_succ]; omega
    walk_at "vc"
    refine ⟨by omega, ?_⟩
    walk_at "vc"
    refine ⟨fun k2 => ?_, fun k2 => ?_⟩
    · have k2 := of_decide_eq_true k2
      walk_at "vc"
      exact fg.i ⟨rfl, by rw [e2]; exact k2, _, by rw [e2]; rfl⟩
    · have k2 := of_decide_eq_false k2
      rw [← lowb_is v0 md (by rw [show (2 : Int) * 2 ^ i = 2 ^ i + 2 ^ i by omega]; exact k2)]
      walk_at "vc"
      exact fg.i q
  · obtain ⟨rfl, md, a2, rfl⟩ := P
    rw [Int.toNat_natCast] at md
    have h1 := lt_bits (u := v) (by omega)
    rw [Int.emod_eq_of_lt (by omega) h1] at md
    omega
theorem own_key_ok (T : All base K mg) {v : Int} (vr : Vr v) {H : Hp} {Q : VK} {E : XK} (q : ∀ t, H t = none → Q (.ref t) (upd H t (.tup [.int (if v = 0 then 1 else 0), .int (lowb v), .int v]))) : sp__law_own_key T [.int v] H Q E := by
  have v0 := vr.1
  unfold sp__law_own_key
  refine ⟨rfl, ?_⟩
  walk_at "vc"
  refine ⟨fun k1 => ?_, fun k1 => ?_⟩
  · obtain rfl : v = 0 := of_decide_eq_true k1
    walk_at "vc"
    exact ⟨Nat.le_of_ble_eq_true rfl, fun t nt => fg.i (q t nt)⟩
  · have k1 := of_decide_eq_false k1
    rw [if_neg k1] at q
    walk_at "vc"
    refine first_power_ok T (by omega) vr ?_
    exact ⟨Nat.le_of_ble_eq_true rfl, fun t nt => fg.i (q t nt)⟩
/-! ## this law's own order -/
def kzD (v : Int) : PyData := .tuple [.int (if v = 0 then 1 else 0), .int (lowb v), .int v]
def kzV (x : V) : PyData := kzD (num x)
theorem kz_lt {u v : Int} (hu : 0 ≤ u) (hv : 0 ≤ v) : PySem.W.dataLt (kzD u) (kzD v) = precB v u := by
  have key : PySem.W.dataLt (kzD u) (kzD v) = true ↔ precB v u = true := by
    rw [prec_iff hv hu]
    refine (lex3 (if u = 0 then 1 else 0) (lowb u) u (if v = 0 then 1 else 0) (lowb v) v).trans ?_
    by_cases h1 : u = 0 <;> by_cases h2 : v = 0
    · subst h1 h2; simp
    · subst h1; simp [h2]
    · subst h2
      simp [h1]
      omega
    · simp [h1, h2]
      omega
  cases h : precB v u with
  | true => exact key.mpr h
  | false => cases h2 : PySem.W.dataLt (kzD u) (kzD v) with
    | true => rw [key.mp h2] at h; cases h
    | false => rfl
theorem kz_sorted {d : List Int} (nn : ∀ u ∈ d, 0 ≤ u) (nd : d.Nodup) : ∃ ms : List Int, (d.map V.int).mergeSort (PySem.W.dataLe true kzV) = ms.map V.int ∧ ms.Perm d ∧ ms.Pairwise (fun a b => precB a b = true) := by
  have tot : PySem.W.TotalLe (PySem.W.dataLe true kzV) := PySem.W.sortLe_total _ true _
  have pm := List.mergeSort_perm (d.map V.int) (PySem.W.dataLe true kzV)
  have pw := List.pairwise_mergeSort (le := PySem.W.dataLe true kzV) (fun a b c => tot.trans a b c) (fun a b => by simpa using tot.total a b) (d.map V.int)
  generalize (d.map V.int).mergeSort (PySem.W.dataLe true kzV) = M at pm pw
  have eM : M = (M.map num).map V.int := by
    rw [List.map_map]
    refine (List.map_id M).symm.trans (List.map_congr_left fun x hx => ?_)
    obtain ⟨y, hy, rfl⟩ := List.mem_map.mp (pm.mem_iff.mp hx)
    rfl
  have pm2 : (M.map num).Perm d := by
    have := pm.map num
    rw [List.map_map] at this
    have e : d.map (num ∘ V.int) = d := by
      refine (List.map_congr_left fun x _ => ?_).trans (List.map_id d)
      rfl
    rw [e] at this
    exact this
  refine ⟨M.map num, eM, pm2, ?_⟩
  have nM : (M.map num).Nodup := pm2.nodup_iff.mpr nd
  have pw2 : (M.map num).Pairwise (fun a b => precB b a = false) := by
    rw [List.pairwise_map]
    refine pw.imp_of_mem fun {a b} ha hb hab => ?_
    obtain ⟨x, hx, rfl⟩ := List.mem_map.mp (pm.mem_iff.mp ha)
    obtain ⟨y, hy, rfl⟩ := List.mem_map.mp (pm.mem_iff.mp hb)
    have h1 : (!PySem.W.dataLt (kzD x) (kzD y)) = true := hab
    rw [kz_lt (nn x hx) (nn y hy)] at h1
    show precB y x = false
    simpa using h1
  refine (pw2.imp_of_mem (S := fun a b => a ≠ b → precB a b = true) fun {a b} ha hb hab ne => ?_).imp₂ (fun a b h1 h2 => h1 h2) nM
  rcases prec_tri (nn a (pm2.mem_iff.mp ha)) (nn b (pm2.mem_iff.mp hb)) ne with h | h
  · exact h
  · rw [hab] at h; cases h
theorem top_takeR {d ms : List Int} {n : Nat} (pm : ms.Perm d) (rp : ms.Pairwise (fun a b => precB a b = true)) : Top (fun u => u ∈ d) n (ms.take n) := by
  refine ⟨by rw [List.length_take]; omega, rp.sublist (List.take_sublist _ _), fun v hv => pm.mem_iff.mp (List.mem_of_mem_take hv), fun u hu nu => ?_⟩
  have ur : u ∈ ms := pm.mem_iff.mpr hu
  rw [← List.take_append_drop n ms] at ur rp
  have ud := (List.mem_append.mp ur).resolve_left nu
  refine ⟨?_, fun v hv => (List.pairwise_append.mp rp).2.2 v hv u ud⟩
  have : 0 < (ms.drop n).length := List.length_pos_of_mem ud
  rw [List.length_drop] at this
  rw [List.length_take]
  omega
theorem prec_eq : ∀ {l m : List Int}, (∀ x ∈ l, 0 ≤ x) → (∀ x ∈ m, 0 ≤ x) → l.Pairwise (fun a b => precB a b = true) → m.Pairwise (fun a b => precB a b = true) → (∀ x, x ∈ l ↔ x ∈ m) → l = m
  | [], [], _, _, _, _, _ => rfl
  | [], y :: m, _, _, _, _, h => by have := (h y).mpr (List.mem_cons_self ..); cases this
  | x :: l, [], _, _, _, _, h => by have := (h x).mp (List.mem_cons_self ..); cases this
  | x :: l, y :: m, p1, p2, h1, h2, h => by
    have ⟨a1, a2⟩ := List.pairwise_cons.mp h1
    have ⟨b1, b2⟩ := List.pairwise_cons.mp h2
    have x0 := p1 x (List.mem_cons_self ..)
    have y0 := p2 y (List.mem_cons_self ..)
    have e : x = y := by
      have m1 := (h x).mp (List.mem_cons_self ..)
      have m2 := (h y).mpr (List.mem_cons_self ..)
      rcases List.mem_cons.mp m1 with e | e
      · exact e
      rcases List.mem_cons.mp m2 with e2 | e2
      · exact e2.symm
      exact (prec_asym x0 y0 (a1 y e2) (b1 x e)).elim
    subst e
    rw [prec_eq (fun z hz => p1 z (List.mem_cons_of_mem _ hz)) (fun z hz => p2 z (List.mem_cons_of_mem _ hz)) a2 b2 fun z => ?_]
    constructor
    · intro hz
      rcases List.mem_cons.mp ((h z).mp (List.mem_cons_of_mem _ hz)) with rfl | h3
      · have := a1 z hz
        rw [prec_irr x0] at this; cases this
      · exact h3
    · intro hz
      rcases List.mem_cons.mp ((h z).mpr (List.mem_cons_of_mem _ hz)) with rfl | h3
      · have := b1 z hz
        rw [prec_irr x0] at this; cases this
      · exact h3
theorem Top.subT {S : Int → Prop} {n : Nat} {f g : List Int} (nn : ∀ u, S u → 0 ≤ u) (a : Top S n f) (b : Top S n g) : ∀ u ∈ f, u ∈ g := fun u hu => Classical.byContradiction fun nu => by
  obtain ⟨lg, og⟩ := b.out u (a.sub u hu) nu
  have nf := a.nd nn
  have ng := b.nd nn
  have ex : ∃ v ∈ g, v ∉ f := Classical.byContradiction fun no => by
    have sub : ∀ v ∈ u :: g, v ∈ f := fun v hv => by
      rcases List.mem_cons.mp hv with rfl | hv
      · exact hu
      · exact Classical.byContradiction fun z => no ⟨v, hv, z⟩
    have := nodup_len (List.nodup_cons.mpr ⟨nu, ng⟩) sub
    have := a.len
    rw [List.length_cons] at *
    omega
  obtain ⟨v, hv, nv⟩ := ex
  have h1 := (a.out v (b.sub v hv) nv).2 u hu
  exact prec_asym (nn u (a.sub u hu)) (nn v (b.sub v hv)) h1 (og v hv)
theorem Top.uniqT {S : Int → Prop} {n : Nat} {f g : List Int} (nn : ∀ u, S u → 0 ≤ u) (a : Top S n f) (b : Top S n g) : f = g :=
  prec_eq (fun x hx => nn x (a.sub x hx)) (fun x hx => nn x (b.sub x hx)) a.pw b.pw fun x => ⟨a.subT nn b x, b.subT nn a x⟩
theorem Top.congr {S S' : Int → Prop} {n : Nat} {f : List Int} (a : Top S n f) (h : ∀ u, S u ↔ S' u) : Top S' n f := ⟨a.len, a.pw, fun v hv => (h v).mp (a.sub v hv), fun u hu nu => a.out u ((h u).mpr hu) nu⟩
/-- the strongest versions of a range are the first of the sorted range -/
theorem due_is {lo hi : Int} {n : Nat} {ms : List Int} (h0 : 0 ≤ lo) (h1 : 0 ≤ hi) (pm : ms.Perm (rgI lo hi)) (rp : ms.Pairwise (fun a b => precB a b = true)) : ms.take n = strongL lo hi n :=
  Top.uniqT (S := fun u => lo ≤ u ∧ u ≤ hi ∧ 0 ≤ u) (fun u hu => hu.2.2) ((top_takeR pm rp).congr fun u => by rw [rgI_mem]; constructor <;> intro h <;> omega) (strongL_top h0 h1)
/-- how many precede one of them -/
theorem top_count {lo hi : Int} {n : Nat} {f : List Int} (h0 : 0 ≤ lo) (t : Top (fun u => lo ≤ u ∧ u ≤ hi ∧ 0 ≤ u) n f) {i : Nat} {v : Int} (hv : f[i]? = some v) : ((rgI lo hi).filter fun u => precB u v).length = i := by
  have nn : ∀ u, (lo ≤ u ∧ u ≤ hi ∧ 0 ≤ u) → 0 ≤ u := fun u h => h.2.2
  have hi' : i < f.length := (List.getElem?_eq_some_iff.mp hv).1
  have sv := t.sub v (List.mem_of_getElem? hv)
  have e : f = f.take i ++ v :: f.drop (i + 1) := by
    have h1 := List.take_append_drop i f
    rw [List.drop_eq_getElem_cons hi'] at h1
    rw [(List.getElem?_eq_some_iff.mp hv).2] at h1
    exact h1.symm
  have pw := t.pw
  rw [e] at pw
  obtain ⟨_, p2, p3⟩ := List.pairwise_append.mp pw
  have lt : (f.take i).length = i := by rw [List.length_take]; omega
  have nf := t.nd nn
  have ni : (f.take i).Nodup := nf.sublist (List.take_sublist _ _)
  have nr : ((rgI lo hi).filter fun u => precB u v).Nodup := (lt_nodup (rgI_pw lo hi)).sublist List.filter_sublist
  refine Nat.le_antisymm ?_ ?_
  · rw [← lt]
    refine nodup_len nr fun u hu => ?_
    obtain ⟨m1, m2⟩ := List.mem_filter.mp hu
    obtain ⟨u0, u1⟩ := rgI_mem.mp m1
    have su : lo ≤ u ∧ u ≤ hi ∧ 0 ≤ u := ⟨u0, u1, by omega⟩
    have uf : u ∈ f := Classical.byContradiction fun nu => prec_asym su.2.2 sv.2.2 m2 ((t.out u su nu).2 v (List.mem_of_getElem? hv))
    rw [e] at uf
    rcases List.mem_append.mp uf with h | h
    · exact h
    rcases List.mem_cons.mp h with rfl | h
    · rw [prec_irr sv.2.2] at m2; cases m2
    · have := (List.pairwise_cons.mp p2).1 u h
      exact (prec_asym su.2.2 sv.2.2 m2 this).elim
  · rw [← lt]
    refine (nodup_len ni fun u hu => ?_)
    have su := t.sub u (List.mem_of_mem_take hu)
    refine List.mem_filter.mpr ⟨rgI_mem.mpr ⟨su.1, su.2.1⟩, ?_⟩
    exact p3 u hu v (List.mem_cons_self ..)
theorem cnt_top {lo hi : Int} {n : Nat} {f : List Int} (h0 : 0 ≤ lo) (hl : lo ≤ hi + 1) (t : Top (fun u => lo ≤ u ∧ u ≤ hi ∧ 0 ≤ u) n f) {i : Nat} {v : Int} (hv : f[i]? = some v) : cntS v lo hi = i := by
  have sv := t.sub v (List.mem_of_getElem? hv)
  have e2 := cnt_range (fun h => cntS v lo h) (fun y => precB y v) lo (cntS_empty (by omega)) (fun h hl => cntS_succ sv.2.2 h0 hl) (hi - lo + 1).toNat
  rw [show lo + (((hi - lo + 1).toNat : Nat) : Int) - 1 = hi by omega] at e2
  rw [← top_count h0 t hv]
  exact e2
open LamX (Tabs TabS ExtN CodeO)
theorem begin_ok (T : All base K mg) {p : Addr} {H : Hp} (hp : H p = some (pot p)) {Q : VK} {E : XK} (q : ∀ v, VerOk v → Q (.int v) H) : sp__law_begin T [.ref p] H Q E := by
  unfold sp__law_begin
  refine ⟨rfl, ?_⟩
  walk_at "vc"
  refine ⟨_, _, rfl, hp, by walk_at "G:dig", fun d0 g0 l0 => ?_⟩
  walk_at "vc"
  refine ⟨shl_fits (by omega) (by omega) (by decide) (by decide), ?_⟩
  walk_at "vc"
  refine ⟨_, _, rfl, hp, by walk_at "G:dig", fun d1 g1 l1 => ?_⟩
  walk_at "vc"
  refine ⟨_, _, rfl, hp, by walk_at "G:dig", fun d2 g2 l2 => ?_⟩
  walk_at "vc"
  refine ⟨by walk_at "G:pow", ?_⟩
  refine ⟨_, _, rfl, hp, by walk_at "G:dig", fun d3 g3 l3 => ?_⟩
  have e59 : (10 : Int) ^ (59 : Int).toNat = 100000000000000000000000000000000000000000000000000000000000 := by decide +kernel
  have l3 : d3 < 10 ^ (59 : Int).toNat := l3
  rw [e59] at l3
  have hpw : 1 ≤ 1 * (2 : Int) ^ d0.toNat ∧ 1 * (2 : Int) ^ d0.toNat < 999999999999999999999999999999999999999999999999999999999999 := by
    rw [Int.one_mul]
    have hm : (2 : Int) ^ d0.toNat ≤ 2 ^ 198 := pow_mono (by omega)
    have hp : (0 : Int) < 2 ^ d0.toNat := Int.pow_pos (by decide)
    have e : (2 : Int) ^ 198 = 401734511064747568885490523085290650630550748445698208825344 := by decide +kernel
    rw [e] at hm
    omega
  generalize 1 * (2 : Int) ^ d0.toNat = pw at hpw ⊢
  walk_at "vc"
  refine ⟨Nat.le_of_ble_eq_true rfl, fun l nl => ?_⟩
  walk_at "vc"
  refine ⟨_, _, rfl, by walk_at "G:heap", by walk_at "G:dig", fun d4 g4 l4 => ?_⟩
  refine ix_any upd_same g4 l4 (all_mem ?_)
  have q2 : ∀ v, 0 ≤ v → v < 1000000000000000000000000000000000000000000000000000000000000 → fg (Q (.int v)) (upd H l (.lst [.int d1, .int (pw + d2 - 1), .int d3, .int (if pw - 70 > 0 then pw - 70 else 0)])) := fun v h1 h2 => ⟨H, Ex.put nl, q v ⟨h1, h2⟩⟩
  exact ⟨q2 _ (by omega) (by omega), q2 _ (by omega) (by omega), q2 _ (by omega) (by omega), q2 _ (by split <;> omega) (by split <;> omega), trivial⟩
theorem rngO_ne {r : Addr} {i j : Int} (ps : Array Value) : RngO r i j ≠ .tbl ps := fun z => by
  unfold RngO at z
  cases z
theorem kz_depth (v : V) : (kzV v).depth ≤ 20 := by
  have : (kzV v).depth = 1 := by simp [kzV, kzD, PyData.depth, PyData.depthAll]
  omega
theorem kz_gt {x v : Int} (x0 : 0 ≤ x) (v0 : 0 ≤ v) : lexR (fun i j => decide (j < i)) [.int (if x = 0 then 1 else 0), .int (lowb x), .int x] [.int (if v = 0 then 1 else 0), .int (lowb v), .int v] = precB x v := by
  unfold precB
  by_cases zx : x = 0 <;> by_cases zv : v = 0
  · subst zx; subst zv; rfl
  · subst zx
    simp [lexR, num, zv]
    omega
  · subst zv
    simp [lexR, num, zx]
  · by_cases e1 : lowb x = lowb v
    · by_cases e : x = v
      · subst e; simp [lexR, num, zx]
      · by_cases h9 : v < x <;> simp [lexR, num, zx, zv, e, e1, h9]
    · simp [lexR, num, zx, zv, e1]
      exact decide_eq_decide.mpr Iff.rfl
theorem near_ok (T : All base K mg) {p : Addr} {H : Hp} (hp : H p = some (pot p)) (hT : Tabs (lT T) H) {Q : VK} {E : XK} (q : ∀ H', ExtN H H' → Tabs (lT T) H' → Q (.bl true) H') : sp__law_near_right T [.ref p] H Q E := by
  unfold sp__law_near_right
  refine ⟨rfl, ?_⟩
  walk_at "vc"
  refine begin_ok T hp fun lo vlo => ?_
  walk_at "vc"
  refine ⟨_, _, rfl, hp, by walk_at "G:dig", fun d0 g0 l0 => ?_⟩
  walk_at "vc"
  refine ⟨_, _, rfl, hp, by walk_at "G:dig", fun d1 g1 l1 => ?_⟩
  walk_at "vc"
  have hz : (if lo + d0 - 1 > 0 then lo + d0 - 1 else 0) + 1 - lo ≤ 151 ∧ 0 ≤ (if lo + d0 - 1 > 0 then lo + d0 - 1 else 0) ∧ (if lo + d0 - 1 > 0 then lo + d0 - 1 else 0) < 10000000000000000000000000000000000000000000000000000000000000 := by
    obtain ⟨a, b⟩ := vlo
    split <;> omega
  obtain ⟨lo0, lo1⟩ := vlo
  generalize (if lo + d0 - 1 > 0 then lo + d0 - 1 else 0) = hi at hz ⊢
  obtain ⟨hz, hi0, hi1⟩ := hz
  obtain ⟨n, rfl⟩ := Int.eq_ofNat_of_zero_le g1
  refine ⟨_, _, rfl, rfl, by omega, fun r H3 x3 hr3 => ?_⟩
  refine And.intro (hT.ext x3) fun f c' H4 eN T4 hf hc => ?_
  walk_at "vc"
  have ev : rgV lo (hi + 1) = (rgI lo hi).map V.int := by
    unfold rgV rgI
    rw [List.map_map, show hi + 1 - lo = hi - lo + 1 by omega]
    rfl
  refine ⟨f, c', rfl, eN _ _ hr3 rngO_ne, hf, hc, kzV, .of fun _ _ => rfl, .tuples fun _ => ⟨_, _, rfl⟩, fun v _ => kz_depth v, fun v hv H' x' => ?_, fun s1 H5 x5 n5 => ?_⟩
  · rw [ev] at hv
    obtain ⟨u, hu, rfl⟩ := List.mem_map.mp hv
    obtain ⟨u0, u1⟩ := rgI_mem.mp hu
    walk_at "vc"
    refine own_key_ok T ⟨by omega, by omega⟩ fun t nt => ?_
    exact ⟨Ex.put nt, .tup (.of upd_same) (.cons (.int _) (.cons (.int _) (.cons (.int _) .nil)))⟩
  rw [ev]
  obtain ⟨ms, ems, pm, pw⟩ := kz_sorted (d := rgI lo hi) (fun u hu => by have := rgI_mem.mp hu; omega) (lt_nodup (rgI_pw _ _))
  rw [ems]
  walk_at "vc"
  refine ⟨s1, _, rfl, .of upd_same, fun s2 n2 => ?_⟩
  rw [cutV_to _ (by omega), Int.toNat_natCast, due_is lo0 hi0 pm pw]
  walk_at "vc"
  refine strongest_ok T lo0 hi0 (by omega) (by omega) fun s3 n3 => ?_
  walk_at "vc"
  have nn := strongL_ok (low := lo) (high := hi) (n := n) hi0
  have rp : RpOk (.list ((strongL lo hi n).map PyData.int)) := by
    refine ⟨?_, ?_, ?_⟩
    · simp only [fits]
      exact fits_ints _ fun x hx => by have := nn.2 x hx; omega
    · simp only [PyData.bulk, bulk_ints]; omega
    · simp only [PyData.depth, depth_ints]; decide
  have e23 : s2 ≠ s3 := fun z => by rw [← z, upd_same] at n3; cases n3
  have h2 : upd (upd (upd H5 s1 (.lst (ms.map V.int))) s2 (.lst ((strongL lo hi n).map V.int))) s3 (.lst ((strongL lo hi n).map V.int)) s2 = some (.lst ((strongL lo hi n).map V.int)) := by rw [upd_ne e23, upd_same]
  have h3 : upd (upd (upd H5 s1 (.lst (ms.map V.int))) s2 (.lst ((strongL lo hi n).map V.int))) s3 (.lst ((strongL lo hi n).map V.int)) s3 = some (.lst ((strongL lo hi n).map V.int)) := upd_same
  have x46 : Ex H4 (upd (upd (upd H5 s1 (.lst (ms.map V.int))) s2 (.lst ((strongL lo hi n).map V.int))) s3 (.lst ((strongL lo hi n).map V.int))) := x5.trans (by walk_at "G:ex")
  generalize upd (upd (upd H5 s1 (.lst (ms.map V.int))) s2 (.lst ((strongL lo hi n).map V.int))) s3 (.lst ((strongL lo hi n).map V.int)) = H6 at h2 h3 x46 ⊢
  have x6 : ExtN H H6 := ((ExtN.of x3).trans eN).trans (.of x46)
  have T6 : Tabs (lT T) H6 := T4.ext x46
  have n46 : H4 s3 = none := x5.free (by
    have : upd H5 s1 (.lst (ms.map V.int)) s3 = none := by rw [upd_ne (Ne.symm e23)] at n3; exact n3
    by_cases z : s3 = s1
    · rw [z, upd_same] at this; cases this
    · rw [upd_ne z] at this; exact this)
  refine ⟨_, _, .lst h3, rfl, .inr (.inr (.inr (.inl rfl))), ?_⟩
  walk_at "vc"
  refine ⟨(fun z => nomatch z), fun _ => ?_⟩
  refine ⟨_, .lst (.of h3) (dp_ints _), rp, ?_⟩
  walk_at "vc"
  refine ⟨_, .lst (.of h2) (dp_ints _), rp, ?_⟩
  walk_at "vc"
  refine ⟨(fun z => by simp at z), fun _ => ?_⟩
  walk_at "vc"
  refine ⟨⟨_, h3⟩, _, h3, by simp; omega, ?_⟩
  have h2b : upd H6 s3 (.lst ((strongL lo hi n).map V.int ++ [.int lo])) s2 = some (.lst ((strongL lo hi n).map V.int)) := by rw [upd_ne e23]; exact h2
  have x4b : Ex H4 (upd H6 s3 (.lst ((strongL lo hi n).map V.int ++ [.int lo]))) := fun b o e => by
    rw [upd_ne (ne_of_none e n46)]
    exact x46 b o e
  generalize upd H6 s3 (.lst ((strongL lo hi n).map V.int ++ [.int lo])) = H7 at h2b x4b ⊢
  have x7 : ExtN H H7 := ((ExtN.of x3).trans eN).trans (.of x4b)
  have T7 : Tabs (lT T) H7 := T4.ext x4b
  walk_at "vc"
  refine strongest_ok T lo0 hi0 (by omega) (by omega) fun s4 n4 => ?_
  refine ⟨_, .lst (.of upd_same) (dp_ints _), rp, ?_⟩
  walk_at "vc"
  refine ⟨_, .lst (.of (by walk_at "G:heap")) (dp_ints _), rp, ?_⟩
  walk_at "vc"
  refine ⟨(fun z => by simp at z), fun _ => ?_⟩
  walk_at "vc"
  have h2c : upd H7 s4 (.lst ((strongL lo hi n).map V.int)) s2 = some (.lst ((strongL lo hi n).map V.int)) := by walk_at "G:heap"
  have x8 : Ex H7 (upd H7 s4 (.lst ((strongL lo hi n).map V.int))) := by walk_at "G:ex"
  generalize upd H7 s4 (.lst ((strongL lo hi n).map V.int)) = H8 at h2c x8 ⊢
  have fin : ∀ H', Ex H8 H' → fg (Q (.bl true)) H' := fun H' x => fg.i (q H' (x7.trans (.of (x8.trans x))) (T7.ext (x8.trans x)))
  generalize hL : strongL lo hi n = L at *
  refine ⟨s2, _, rfl, .of h2c, fun s5 n5 => ?_⟩
  rw [cutV_to _ (by omega)]
  walk_at "vc"
  have e6 : (6 : Int).toNat = 6 := rfl
  rw [e6]
  refine ⟨s5, _, rfl, .of upd_same, ?_⟩
  have h2d : upd H8 s5 (.lst ((L.take 6).map V.int)) s2 = some (.lst (L.map V.int)) := by walk_at "G:heap"
  have h5 : upd H8 s5 (.lst ((L.take 6).map V.int)) s5 = some (.lst ((L.take 6).map V.int)) := upd_same
  have x9 : Ex H8 (upd H8 s5 (.lst ((L.take 6).map V.int))) := Ex.put n5
  generalize upd H8 s5 (.lst ((L.take 6).map V.int)) = H9 at h2d h5 x9 ⊢
  have isv : ∀ (i : Nat) (x : V), ((L.take 6).map V.int)[i]? = some x → ∃ u : Int, x = .int u ∧ 0 ≤ u ∧ u < 10000000000000000000000000000000000000000000000000000000000000 := fun i x hx => by
    obtain ⟨u, hu, rfl⟩ := List.mem_map.mp (List.mem_of_getElem? hx)
    have := nn.2 u (List.mem_of_mem_take hu)
    exact ⟨u, rfl, this.1, by omega⟩
  refine forB (fun i σ' H' => Ex H9 H' ∧ ∃ a6 a7, σ' = [some (.ref p), some (.int lo), some (.int hi), some (.int n), some (.ref s2), some (.ref s3), a6, a7]) ⟨Ex.refl _, none, none, rfl⟩ (fun i σ' H' _ P => .of (P.1 _ _ h5)) (fun i σ' H' hi' P => ?_) (fun σ' H' P => ?_)
  · obtain ⟨xx, a6, a7, rfl⟩ := P
    intro x hx
    obtain ⟨u, rfl, u0, u1⟩ := isv i x hx
    walk_at "vc"
    refine ⟨s2, _, rfl, .of (xx _ _ h2d), fun s6 n6 => ?_⟩
    rw [cutV_to _ (by omega), e6]
    refine ⟨s6, _, rfl, .of upd_same, ?_⟩
    have h6 : upd H' s6 (.lst ((L.take 6).map V.int)) s6 = some (.lst ((L.take 6).map V.int)) := upd_same
    have x6' : Ex H' (upd H' s6 (.lst ((L.take 6).map V.int))) := Ex.put n6
    generalize upd H' s6 (.lst ((L.take 6).map V.int)) = G0 at h6 x6' ⊢
    refine forB (fun i σ' H2 => Ex G0 H2 ∧ ∃ a7, σ' = [some (.ref p), some (.int lo), some (.int hi), some (.int n), some (.ref s2), some (.ref s3), some (.int u), a7]) ⟨Ex.refl _, _, rfl⟩ (fun i σ' H' _ P => .of (P.1 _ _ h6)) (fun i2 σ' H2 hi2 P => ?_) (fun σ' H2 P => ?_)
    · obtain ⟨x2, b7, rfl⟩ := P
      intro y hy
      obtain ⟨w', rfl, w0, w1⟩ := isv i2 y hy
      walk_at "vc"
      refine precedes_ok T u0 w0 ?_
      have rb : RpOk (.bool (precB u w')) := ⟨trivial, by simp [PyData.bulk], by simp [PyData.depth]⟩
      refine ⟨_, .bl _, rb, ?_⟩
      walk_at "vc"
      refine own_key_ok T ⟨u0, by omega⟩ fun p1 np1 => ?_
      walk_at "vc"
      refine own_key_ok T ⟨w0, by omega⟩ fun p2 np2 => ?_
      refine ⟨p1, p2, _, _, rfl, rfl, .of (hp_ne np2 upd_same), .of upd_same, rfl, rfl, ?_⟩
      rw [kz_gt u0 w0]
      refine ⟨_, .bl _, rb, ?_⟩
      walk_at "vc"
      refine ⟨(fun z => by simp at z), fun _ => fg.i ⟨x2.trans ?_, _, rfl⟩⟩
      walk_at "G:ex"
    · obtain ⟨x2, b7, rfl⟩ := P
      exact fg.i ⟨xx.trans (x6'.trans x2), _, _, rfl⟩
  · obtain ⟨xx, a6, a7, rfl⟩ := P
    walk_at "vc"
    exact fin _ (x9.trans xx)
theorem multiples_is {l h p : Int} (hp : 0 < p) : (if decide (l ≤ h) = true then (if h / p - (l + p - 1) / p + 1 > 0 then h / p - (l + p - 1) / p + 1 else 0) else 0) = cntM l h p := by
  unfold cntM
  by_cases c : l ≤ h
  · rw [if_pos (decide_eq_true c), if_pos (decide_eq_true c)]
    have e : (l + p - 1) / p = (l - 1) / p + 1 := by
      rw [show l + p - 1 = (l - 1) + 1 * p by omega, Int.add_mul_ediv_right _ _ (by omega)]
    have m : (l - 1) / p ≤ h / p := Int.ediv_le_ediv hp (by omega)
    rw [e]
    split <;> omega
  · rw [if_neg (by simpa using c), if_neg (by simpa using c)]
theorem multiples_ok (T : All base K mg) {l h p : Int} (hp : 0 < p) (hm : p < 1000000000000000000000000000000000000000000000000000000000000000) {H : Hp} {Q : VK} {E : XK} (q : Q (.int (cntM l h p)) H) : sp__law_multiples T [.int l, .int h, .int p] H Q E := by
  rw [← multiples_is hp] at q
  unfold sp__law_multiples
  refine ⟨rfl, ?_⟩
  walk_at "vc"
  refine ⟨fun k => ?_, fun k => ?_⟩
  · rw [if_pos k] at q
    walk_at "vc"
    refine ⟨by walk_at "G:fdiv", ?_⟩
    walk_at "vc"
    refine ⟨by walk_at "G:fdiv", ?_⟩
    walk_at "vc"
    exact fg.i q
  · rw [if_neg (by rw [k]; exact Bool.false_ne_true)] at q
    walk_at "vc"
    exact fg.i q
theorem stronger_ok (T : All base K mg) {v l h : Int} (vr : Vr v) (hl : l ≤ h) {H : Hp} {Q : VK} {E : XK} (q : Q (.int (cntS v l h)) H) : sp__law_stronger T [.int v, .int l, .int h] H Q E := by
  unfold sp__law_stronger
  refine ⟨rfl, ?_⟩
  walk_at "vc"
  obtain ⟨v0, v1⟩ := vr
  refine ⟨fun k => ?_, fun k => ?_⟩
  · have k := of_decide_eq_true k
    subst k
    have e : cntS 0 l h = 0 := rfl
    rw [e] at q
    refine ⟨fun _ => ?_, fun z => nomatch z⟩
    walk_at "vc"
    exact fg.i q
  · have k := of_decide_eq_false k
    walk_at "vc"
    refine ⟨fun z => absurd (of_decide_eq_true z) (by omega), fun _ => ?_⟩
    walk_at "vc"
    have lp := lowb_pos (v := v) (by omega)
    have ll := (lowb_le (n := v) (by omega)).2
    unfold cntS at q
    rw [if_neg k] at q
    refine first_power_ok T (by omega) ⟨v0, v1⟩ ?_
    walk_at "vc"
    refine multiples_ok T (by omega) (by omega) ?_
    walk_at "vc"
    refine ⟨mulW (by unfold Wide; omega) (by unfold Wide; omega), ?_⟩
    refine multiples_ok T (by omega) (by omega) ?_
    walk_at "vc"
    refine ⟨mulW (by unfold Wide; omega) (by unfold Wide; omega), ?_⟩
    refine multiples_ok T (by omega) (by omega) ?_
    walk_at "vc"
    exact fg.i q
theorem top_len {lo hi : Int} {n : Nat} {f : List Int} (h0 : 0 ≤ lo) (hl : lo ≤ hi + 1) (t : Top (fun u => lo ≤ u ∧ u ≤ hi ∧ 0 ≤ u) n f) : (f.length : Int) = if hi - lo + 1 < (n : Int) then hi - lo + 1 else (n : Int) := by
  have nf := t.nd fun u h => h.2.2
  have nr : (rgI lo hi).Nodup := lt_nodup (rgI_pw lo hi)
  have a := nodup_len nf (m := rgI lo hi) fun x hx => rgI_mem.mpr ⟨(t.sub x hx).1, (t.sub x hx).2.1⟩
  rw [rgI_len] at a
  have b := t.len
  by_cases c : f.length = n
  · split <;> omega
  · have d := nodup_len nr (m := f) fun x hx => Classical.byContradiction fun nx => c (t.out x ⟨(rgI_mem.mp hx).1, (rgI_mem.mp hx).2, by have := (rgI_mem.mp hx).1; omega⟩ nx).1
    rw [rgI_len] at d
    split <;> omega
theorem far_ok (T : All base K mg) {p : Addr} {H : Hp} (hp : H p = some (pot p)) {Q : VK} {E : XK} (q : Q (.bl true) H) : sp__law_far_right T [.ref p] H Q E := by
  unfold sp__law_far_right
  refine ⟨rfl, ?_⟩
  walk_at "vc"
  refine begin_ok T hp fun lo vlo => ?_
  walk_at "vc"
  refine ⟨_, _, rfl, hp, by walk_at "G:dig", fun d0 g0 l0 => ?_⟩
  walk_at "vc"
  refine ⟨Nat.le_of_ble_eq_true rfl, fun t1 n1 => ?_⟩
  have hp1 := hp_ne (o := .lst [.int d0, .int 300]) n1 hp
  walk_at "vc"
  refine ⟨_, _, rfl, hp1, by walk_at "G:dig", fun d1 g1 l1 => ?_⟩
  walk_at "vc"
  obtain ⟨n, hn, en⟩ : ∃ n : Nat, n ≤ 300 ∧ atI [V.int d0, V.int 300] (d1 / 8) = some (V.int (n : Int)) := by
    obtain ⟨k, rfl⟩ := Int.eq_ofNat_of_zero_le g0
    have : d1 / 8 = 0 ∨ d1 / 8 = 1 := by omega
    rcases this with e | e <;> rw [e]
    · exact ⟨k, by omega, rfl⟩
    · exact ⟨300, by omega, rfl⟩
  refine ⟨by walk_at "G:fdiv", ⟨t1, _, _, _, rfl, rfl, .of upd_same, en, ?_⟩⟩
  walk_at "vc"
  refine ⟨Nat.le_of_ble_eq_true rfl, fun t2 n2 => ?_⟩
  have hp2 := hp_ne (o := .tup [.int lo, .int n]) n2 hp1
  have x2 : Ex H (upd (upd H t1 (.lst [.int d0, .int 300])) t2 (.tup [.int lo, .int n])) := by walk_at "G:ex"
  refine ⟨t2, _, rfl, .inl (.of upd_same), rfl, ?_⟩
  generalize upd (upd H t1 (.lst [.int d0, .int 300])) t2 (.tup [.int lo, .int n]) = H2 at hp2 x2 ⊢
  walk_at "vc"
  refine ⟨rfl, ?_⟩
  walk_at "vc"
  refine ⟨by walk_at "G:pow", _, _, rfl, hp2, by walk_at "G:dig", fun d2 g2 l2 => ?_⟩
  have e59 : (10 : Int) ^ (59 : Int).toNat = 100000000000000000000000000000000000000000000000000000000000 := by decide +kernel
  have e9 : (10 : Int) ^ (9 : Int).toNat = 1000000000 := by decide +kernel
  have l2 : d2 < 10 ^ (59 : Int).toNat := l2
  rw [e59] at l2
  walk_at "vc"
  refine ⟨by walk_at "G:pow", _, _, rfl, hp2, by walk_at "G:dig", fun d3 g3 l3 => ?_⟩
  have l3 : d3 < 10 ^ (9 : Int).toNat := l3
  rw [e9] at l3
  walk_at "vc"
  refine ⟨_, _, rfl, hp2, by walk_at "G:dig", fun d4 g4 l4 => ?_⟩
  walk_at "vc"
  refine ⟨shl_fits (by omega) (by omega) (by decide) (by decide), ?_⟩
  have hpw : 1 ≤ 1 * (2 : Int) ^ d4.toNat ∧ 1 * (2 : Int) ^ d4.toNat < 999999999999999999999999999999999999999999999999999999999999 := by
    rw [Int.one_mul]
    have hm : (2 : Int) ^ d4.toNat ≤ 2 ^ 189 := pow_mono (by omega)
    have hp : (0 : Int) < 2 ^ d4.toNat := Int.pow_pos (by decide)
    have e : (2 : Int) ^ 189 = 784637716923335095479473677900958302012794430558004314112 := by decide +kernel
    rw [e] at hm
    omega
  generalize 1 * (2 : Int) ^ d4.toNat = pw at hpw ⊢
  walk_at "vc"
  refine ⟨Nat.le_of_ble_eq_true rfl, fun t3 n3 => ?_⟩
  have hp3 := hp_ne (o := .lst [.int d2, .int d3, .int pw]) n3 hp2
  have h3 : upd H2 t3 (.lst [.int d2, .int d3, .int pw]) t3 = some (.lst [.int d2, .int d3, .int pw]) := upd_same
  have x3 : Ex H (upd H2 t3 (.lst [.int d2, .int d3, .int pw])) := x2.trans (Ex.put n3)
  generalize upd H2 t3 (.lst [.int d2, .int d3, .int pw]) = H3 at hp3 h3 x3 ⊢
  walk_at "vc"
  refine ⟨_, _, _, rfl, hp3, h3, by simp, by simp, fun v m => ?_⟩
  obtain ⟨sp, rfl, hsp0, hsp1⟩ : ∃ n : Int, v = .int n ∧ (0 ≤ n ∧ n < 999999999999999999999999999999999999999999999999999999999999) := by
    simp only [List.mem_cons, List.not_mem_nil, or_false] at m
    rcases m with rfl | rfl | rfl <;> exact ⟨_, rfl, by omega, by omega⟩
  clear m
  obtain ⟨lo0, lo1⟩ := vlo
  walk_at "vc"
  obtain ⟨hi, ehi⟩ : ∃ hi, lo + sp = hi := ⟨_, rfl⟩
  rw [ehi]
  have hi0 : lo ≤ hi := by omega
  have hi1 : hi < 10000000000000000000000000000000000000000000000000000000000000 := by omega
  refine strongest_ok T lo0 (by omega) (by omega) (by omega) fun s1 n4 => ?_
  have tp := strongL_top (lo := lo) (hi := hi) (n := n) lo0 (by omega)
  have lenL := top_len lo0 (by omega) tp
  have hs1 : upd H3 s1 (.lst ((strongL lo hi n).map V.int)) s1 = some (.lst ((strongL lo hi n).map V.int)) := upd_same
  have hp4 := hp_ne (o := .lst ((strongL lo hi n).map V.int)) n4 hp3
  have x4 : Ex H (upd H3 s1 (.lst ((strongL lo hi n).map V.int))) := x3.trans (Ex.put n4)
  have nH : H s1 = none := x3.free n4
  generalize upd H3 s1 (.lst ((strongL lo hi n).map V.int)) = H4 at hs1 hp4 x4 ⊢
  walk_at "vc"
  refine ⟨s1, _, rfl, .of hs1, ?_⟩
  walk_at "vc"
  rw [List.length_map, lenL, decide_eq_true rfl]
  refine ⟨fun z => by simp at z, fun _ => ?_⟩
  generalize hL : strongL lo hi n = L at *
  have isv : ∀ (i : Nat) (x : V), (L.map V.int)[i]? = some x → ∃ u : Int, x = .int u ∧ L[i]? = some u ∧ lo ≤ u ∧ u ≤ hi := fun i x hx => by
    rw [List.getElem?_map] at hx
    cases e : L[i]? with
    | none => rw [e] at hx; simp at hx
    | some u =>
      rw [e] at hx
      have := tp.sub u (List.mem_of_getElem? e)
      exact ⟨u, (Option.some.inj hx).symm, rfl, this.1, this.2.1⟩
  have lenM : (L.map V.int).length < 100000 := by rw [List.length_map]; have := tp.len; omega
  walk_at "vc"
  refine ⟨s1, _, rfl, .of hs1, ?_⟩
  refine lc_at (fun _ v => v = .bl true) lenM (.of hs1) (fun i x d acc R hx nd k => ?_) (fun ys l hl hy nl => ?_)
  · obtain ⟨u, rfl, _, u0, u1⟩ := isv i x hx
    walk_at "vc"
    refine ⟨fun _ => ?_, fun z => absurd u0 (of_decide_eq_false z)⟩
    walk_at "vc"
    exact k _ _ (Ex.refl _) (by rw [decide_eq_true u1])
  rw [all_bl hy, hl, show ∀ m : Nat, List.replicate m (V.bl true) = (List.replicate m true).map V.bl from fun m => (List.map_replicate ..).symm]
  have hs1b := hp_ne (o := .lst ((List.replicate (L.map V.int).length true).map V.bl)) nl hs1
  have hp5 := hp_ne (o := .lst ((List.replicate (L.map V.int).length true).map V.bl)) nl hp4
  have hl5 : upd H4 l (.lst ((List.replicate (L.map V.int).length true).map V.bl)) l = some (.lst ((List.replicate (L.map V.int).length true).map V.bl)) := upd_same
  have x5 : Ex H (upd H4 l (.lst ((List.replicate (L.map V.int).length true).map V.bl))) := x4.trans (Ex.put nl)
  generalize upd H4 l (.lst ((List.replicate (L.map V.int).length true).map V.bl)) = H5 at hs1b hp5 hl5 x5 ⊢
  walk_at "vc"
  refine ⟨l, _, rfl, .of hl5, ?_⟩
  rw [all_rep]
  walk_at "vc"
  refine ⟨(fun z => by simp at z), fun _ => ?_⟩
  walk_at "vc"
  refine ⟨s1, _, rfl, .of hs1b, ?_⟩
  refine lc_grow2 (fun i y H' => ∃ t u, y = .ref t ∧ L[i]? = some u ∧ H' t = some (.tup [.int (if u = 0 then 1 else 0), .int (lowb u), .int u])) (fun i y H1 H2 x ⟨t, u, e1, e2, e3⟩ => ⟨t, u, e1, e2, x _ _ e3⟩) lenM (fun H' x => .of (x _ _ hs1b)) (fun i x d acc H' R hx x' nd k => ?_) (fun ks kq H6 x6 lk hk nk => ?_)
  · obtain ⟨u, rfl, eu, u0, u1⟩ := isv i x hx
    walk_at "vc"
    refine own_key_ok T ⟨by omega, by omega⟩ fun t nt => ?_
    have ntd : t ≠ d := fun z => by rw [z, upd_same] at nt; cases nt
    refine k _ _ (Ex.put nt) ⟨t, u, rfl, eu, ?_⟩
    rw [del_ne ntd, upd_same]
  have hs1c : upd H6 kq (.lst ks) s1 = some (.lst (L.map V.int)) := hp_ne nk (x6 _ _ hs1b)
  have hp6 : upd H6 kq (.lst ks) p = some (pot p) := hp_ne nk (x6 _ _ hp5)
  have hkq : upd H6 kq (.lst ks) kq = some (.lst ks) := upd_same
  have x6b : Ex H6 (upd H6 kq (.lst ks)) := Ex.put nk
  have hk : ∀ i y, ks[i]? = some y → ∃ (t : Addr) (u : Int), y = V.ref t ∧ L[i]? = some u ∧ upd H6 kq (.lst ks) t = some (.tup [.int (if u = 0 then 1 else 0), .int (lowb u), .int u]) := fun i y hy => by
    obtain ⟨t, u, e1, e2, e3⟩ := hk i y hy
    exact ⟨t, u, e1, e2, x6b _ _ e3⟩
  have x7 : Ex H (upd H6 kq (.lst ks)) := x5.trans (x6.trans x6b)
  generalize upd H6 kq (.lst ks) = H7 at hs1c hp6 hkq hk x7 ⊢
  walk_at "vc"
  refine ⟨kq, _, rfl, .of hkq, fun zq nz => ?_⟩
  have ec : cutV ks (some 1) none = ks.drop 1 := cutV_tail ks
  rw [ec]
  walk_at "vc"
  refine ⟨kq, zq, ks, ks.drop 1, rfl, .of (hp_ne nz hkq), .of upd_same, ?_⟩
  have hs1d : upd H7 zq (.lst (ks.drop 1)) s1 = some (.lst (L.map V.int)) := hp_ne nz hs1c
  have hp7 : upd H7 zq (.lst (ks.drop 1)) p = some (pot p) := hp_ne nz hp6
  have hkq2 : upd H7 zq (.lst (ks.drop 1)) kq = some (.lst ks) := hp_ne nz hkq
  have hzq : upd H7 zq (.lst (ks.drop 1)) zq = some (.lst (ks.drop 1)) := upd_same
  have x78 : Ex H7 (upd H7 zq (.lst (ks.drop 1))) := Ex.put nz
  generalize upd H7 zq (.lst (ks.drop 1)) = H8 at hs1d hp7 hkq2 hzq x78 ⊢
  have lk2 : min ks.length (ks.drop 1).length < 100000 := by omega
  refine lcB (fun i acc H' => Ex H8 H' ∧ acc = List.replicate i (V.bl true)) ⟨Ex.refl _, rfl⟩ (fun i acc H' hi P => ⟨⟨.of (P.1 _ _ hkq2), .of (P.1 _ _ hzq)⟩, by rw [P.2, List.length_replicate]; omega⟩) (fun i acc H' d hi P nd => ?_) (fun acc H' qq P nq => ?_)
  · obtain ⟨xx, rfl⟩ := P
    intro T1 a b ha hb nT
    obtain ⟨ta, u, rfl, eu, hta⟩ := hk i a ha
    rw [List.getElem?_drop] at hb
    obtain ⟨tb, w', rfl, ew, htb⟩ := hk (1 + i) b hb
    have x9 : Ex H8 (upd (upd H' d (.lst (List.replicate i (V.bl true)))) T1 (.tup [.ref ta, .ref tb])) := xx.trans (by walk_at "G:ex")
    have x9d : Ex (upd H' d (.lst (List.replicate i (V.bl true)))) (upd (upd H' d (.lst (List.replicate i (V.bl true)))) T1 (.tup [.ref ta, .ref tb])) := Ex.put nT
    have hT1 : upd (upd H' d (.lst (List.replicate i (V.bl true)))) T1 (.tup [.ref ta, .ref tb]) T1 = some (.tup [.ref ta, .ref tb]) := upd_same
    generalize upd (upd H' d (.lst (List.replicate i (V.bl true)))) T1 (.tup [.ref ta, .ref tb]) = H9 at x9 x9d hT1 ⊢
    have su := tp.sub u (List.mem_of_getElem? eu)
    have sw := tp.sub w' (List.mem_of_getElem? ew)
    have hpr : precB u w' = true := by
      obtain ⟨i1, e1⟩ := List.getElem?_eq_some_iff.mp eu
      obtain ⟨i2, e2⟩ := List.getElem?_eq_some_iff.mp ew
      have := List.pairwise_iff_getElem.mp tp.pw i (1 + i) i1 i2 (by omega)
      rw [e1, e2] at this
      exact this
    walk_at "vc"
    refine ⟨T1, _, rfl, .inl (.of hT1), rfl, ?_⟩
    refine ⟨rfl, ?_⟩
    walk_at "vc"
    refine ⟨rfl, ?_⟩
    walk_at "vc"
    refine ⟨fun _ => ?_, fun z => nomatch z⟩
    walk_at "vc"
    refine ⟨ta, tb, _, _, rfl, rfl, .of (x9 _ _ (x78 _ _ hta)), .of (x9 _ _ (x78 _ _ htb)), rfl, rfl, ?_⟩
    rw [kz_gt su.2.2 sw.2.2, hpr]
    exact ⟨H', nd, x9d, xx, (List.replicate_succ' ..).symm⟩
  obtain ⟨xx, rfl⟩ := P
  rw [show ∀ m : Nat, List.replicate m (V.bl true) = (List.replicate m true).map V.bl from fun m => (List.map_replicate ..).symm]
  have xq : Ex H8 (upd H' qq (.lst ((List.replicate (min ks.length (ks.drop 1).length) true).map V.bl))) := xx.trans (Ex.put nq)
  have hqq : upd H' qq (.lst ((List.replicate (min ks.length (ks.drop 1).length) true).map V.bl)) qq = some (.lst ((List.replicate (min ks.length (ks.drop 1).length) true).map V.bl)) := upd_same
  generalize upd H' qq (.lst ((List.replicate (min ks.length (ks.drop 1).length) true).map V.bl)) = G1 at xq hqq ⊢
  have gs1 := xq _ _ hs1d
  have gp := xq _ _ hp7
  have xg : Ex H G1 := x7.trans (x78.trans xq)
  walk_at "vc"
  refine ⟨qq, _, rfl, .of hqq, ?_⟩
  rw [all_rep]
  refine ⟨(fun z => by simp at z), fun _ => ?_⟩
  walk_at "vc"
  refine ⟨s1, _, rfl, .of gs1, ?_⟩
  refine forB (fun i σ' H' => Ex G1 H' ∧ ∃ a9 a10, σ' = [some (.ref p), some (.int lo), some (.int n), some (.ref t3), some (.int hi), some (.ref s1), none, some (.ref kq), none, a9, a10, none]) ⟨Ex.refl _, none, none, rfl⟩ (fun i σ' H' _ P => .of (P.1 _ _ gs1)) (fun i σ' H' hi' P => ?_) (fun σ' H' P => ?_)
  · obtain ⟨xx, a9, a10, rfl⟩ := P
    intro T1 x hx nT
    obtain ⟨u, rfl, eu, u0, u1⟩ := isv i x hx
    have x9 : Ex G1 (upd H' T1 (.tup [.int i, .int u])) := xx.trans (Ex.put nT)
    have hT1 : upd H' T1 (.tup [.int i, .int u]) T1 = some (.tup [.int i, .int u]) := upd_same
    generalize upd H' T1 (.tup [.int i, .int u]) = G2 at x9 hT1 ⊢
    have su := tp.sub u (List.mem_of_getElem? eu)
    have ct := cnt_top lo0 (by omega) tp eu
    walk_at "vc"
    refine ⟨T1, _, rfl, .inl (.of hT1), rfl, ?_⟩
    refine ⟨rfl, ?_⟩
    walk_at "vc"
    refine stronger_ok T ⟨by omega, by omega⟩ hi0 ?_
    walk_at "vc"
    refine count_stronger_ok T (by omega) lo0 (by omega) (by omega) ?_
    rw [ct]
    refine ⟨Nat.le_of_ble_eq_true rfl, fun t5 n5 => ?_⟩
    walk_at "vc"
    refine ⟨Nat.le_of_ble_eq_true rfl, fun t6 n6 => ?_⟩
    refine ⟨_, _, .lst (.of (hp_ne n6 upd_same)) (.cons (.int _) (.cons (.int _) .nil)), .lst (.of upd_same) (.cons (.int _) (.cons (.int _) .nil)), rfl, rfl, ?_⟩
    rw [data_same rfl]
    walk_at "vc"
    refine ⟨(fun z => nomatch z), fun _ => fg.i ⟨x9.trans (by walk_at "G:ex"), _, _, rfl⟩⟩
  obtain ⟨xx, a9, a10, rfl⟩ := P
  have gs2 := xx _ _ gs1
  have gp2 := xx _ _ gp
  have x2' : Ex H H' := xg.trans xx
  clear isv tp lenL hk
  walk_at "vc"
  refine strongest_ok T lo0 (by omega) (by omega) (by omega) fun s2 n5 => ?_
  have hs2 : upd H' s2 (.lst ((strongL lo hi n).map V.int)) s2 = some (.lst ((strongL lo hi n).map V.int)) := upd_same
  have hs1' := hp_ne (o := .lst ((strongL lo hi n).map V.int)) n5 gs2
  have hp' := hp_ne (o := .lst ((strongL lo hi n).map V.int)) n5 gp2
  have xs2 : Ex H (upd H' s2 (.lst ((strongL lo hi n).map V.int))) := x2'.trans (Ex.put n5)
  have ne12 : s1 ≠ s2 := fun z => by rw [← z, gs2] at n5; cases n5
  generalize upd H' s2 (.lst ((strongL lo hi n).map V.int)) = J1 at hs2 hs1' hp' xs2 ⊢
  rw [hL] at hs2
  walk_at "vc"
  refine ⟨⟨_, hs1'⟩, ?_⟩
  walk_at "vc"
  refine ⟨_, hs1', by omega, ?_⟩
  rw [show L.map V.int ++ [.int lo] = (L ++ [lo]).map V.int by simp]
  have ht : upd J1 s1 (.lst ((L ++ [lo]).map V.int)) s1 = some (.lst ((L ++ [lo]).map V.int)) := upd_same
  have hs2b : upd J1 s1 (.lst ((L ++ [lo]).map V.int)) s2 = some (.lst (L.map V.int)) := by rw [upd_ne (Ne.symm ne12)]; exact hs2
  have hpb : upd J1 s1 (.lst ((L ++ [lo]).map V.int)) p = some (pot p) := by
    rw [upd_ne (fun z => by rw [z, hs1'] at hp'; cases hp')]; exact hp'
  have xb : Ex H (upd J1 s1 (.lst ((L ++ [lo]).map V.int))) := fun b o e => by
    rw [upd_ne (ne_of_none e nH)]
    exact xs2 b o e
  generalize upd J1 s1 (.lst ((L ++ [lo]).map V.int)) = J2 at ht hs2b hpb xb ⊢
  walk_at "vc"
  refine ⟨s1, _, rfl, .of ht, fun s3 n6 => ?_⟩
  rw [cutV_last _ (by simp), List.dropLast_concat]
  have shL : SeqAt.shaped (.list (L.map PyData.int)) = true := shaped_li L
  refine ⟨_, _, .lst (.of (hp_ne n6 hs2b)) (dp_ints _), .lst (.of upd_same) (dp_ints _), shL, shL, ?_⟩
  rw [data_same shL]
  walk_at "vc"
  refine ⟨(fun z => nomatch z), fun _ => ?_⟩
  walk_at "vc"
  refine strongest_ok (n := n) T lo0 (by omega) (by omega) (by omega) fun s4 n7 => ?_
  rw [hL]
  refine ⟨_, _, .lst (.of upd_same) (dp_ints _), .lst (.of (hp_ne n7 (hp_ne n6 hs2b))) (dp_ints _), shL, shL, ?_⟩
  rw [data_same shL]
  walk_at "vc"
  have hpc := hp_ne (o := .lst (L.map V.int)) n7 (hp_ne (o := .lst (L.map V.int)) n6 hpb)
  have xc : Ex H (upd (upd J2 s3 (.lst (L.map V.int))) s4 (.lst (L.map V.int))) := xb.trans (by walk_at "G:ex")
  generalize upd (upd J2 s3 (.lst (L.map V.int))) s4 (.lst (L.map V.int)) = J3 at hpc xc ⊢
  refine ⟨(fun z => nomatch z), fun _ => ?_⟩
  have fin : ∀ J, Ex J3 J → fg (Q (.bl true)) J := fun J x => ⟨H, xc.trans x, q⟩
  walk_at "vc"
  refine ⟨fun _ => fin _ (Ex.refl _), fun ne => ?_⟩
  have ne := of_decide_eq_false ne
  have lt : lo < hi := by omega
  walk_at "vc"
  refine begin_ok T hpc fun bv hbv => ?_
  obtain ⟨b0, b1⟩ := hbv
  walk_at "vc"
  refine count_stronger_ok T (by omega) (by omega) lo0 (by omega) ?_
  rw [cntS_empty lt]
  walk_at "vc"
  refine ⟨fun _ => ?_, fun z => nomatch z⟩
  walk_at "vc"
  refine strongest_ok (n := 9) T (by omega) lo0 (by omega) (by omega) fun s5 n8 => ?_
  rw [strongL_nil (by omega) lo0 lt]
  walk_at "vc"
  refine ⟨Nat.le_of_ble_eq_true rfl, fun t7 n9 => ?_⟩
  refine ⟨.list [], .list [], .lst (.of (hp_ne n9 upd_same)) .nil, .lst (.of upd_same) .nil, rfl, rfl, ?_⟩
  exact fin _ (by walk_at "G:ex")
open LamX (Tabs TabS ExtN CodeO)
theorem TabS.del {H : Hp} {d P : Addr} {q : Str} {acc : List V} (h : H d = some (.lst acc)) (t : TabS H P q) : TabS (del H d) P q := by
  obtain ⟨ps, h1, h2, h3⟩ := t
  refine ⟨ps, by rw [del_ne (fun z => by rw [z, h] at h1; cases h1)]; exact h1, h2, fun pos cv hc => ?_⟩
  obtain ⟨c, e1, e2⟩ := h3 pos cv hc
  exact ⟨c, e1, by rw [del_ne (fun z => by rw [z, h] at e2; unfold CodeO at e2; cases e2)]; exact e2⟩
theorem pot_ne {p : Addr} (ps : Array Value) : pot p ≠ .tbl ps := fun z => by
  unfold pot at z
  cases z
theorem ExtN.sqL {H H' : Hp} {a : Addr} {xs : List V} (e : ExtN H H') (h : SqL K H a xs) : SqL K H' a xs := by
  rcases h with (h | ⟨o, h⟩) | h
  · exact .inl (.inl (e _ _ h fun ps z => by cases z))
  · exact .inl (.inr ⟨o, e _ _ h fun ps z => by cases z⟩)
  · exact .inr h
theorem law_ok (T : All base K mg) {a : Addr} {ns : List Int} {H : Hp} (hs : SqL K H a (ns.map V.int)) (hl : ns.length ≤ 63) (hc : ∀ p ∈ [(T.mk__law_near_right.c, T.mk__law_near_right.P)], H p.2 = some (.tbl #[])) {Q : VK} {E : XK} (q : ∀ H, Q (.bl true) H) : sp_law T [.ref a] H Q E := by
  have T0 : Tabs (lT T) H := fun p hp => by
    unfold lT at hp
    rw [List.mem_singleton.mp hp]
    exact LamX.TabS.nil (hc _ (.head _))
  unfold sp_law
  refine ⟨rfl, ?_⟩
  walk_at "vc"
  refine ⟨a, _, rfl, hs, ?_⟩
  walk_at "vc"
  refine ⟨turns_ok (by decide), ?_⟩
  refine forB (fun i σ' H' => ExtN H H' ∧ Tabs (lT T) H' ∧ ∃ a1 a2 a3, σ' = [some (.ref a), a1, a2, a3]) ⟨LamX.ExtN.refl H, T0, _, _, _, rfl⟩ (fun _ _ _ _ _ => trivial) (fun i σ' H' hi P => ?_) (fun σ' H' P => ?_)
  · obtain ⟨xx, T1, a1, a2, a3, rfl⟩ := P
    have hi := turns_nat (by decide) hi
    walk_at "vc"
    refine ⟨_, _, _, rfl, ExtN.sqL xx hs, by omega, by omega, fun p np => ?_⟩
    have hp : upd H' p (pot p) p = some (pot p) := upd_same
    have x0 : ExtN H (upd H' p (pot p)) := xx.trans (.of (Ex.put np))
    have T2 : Tabs (lT T) (upd H' p (pot p)) := T1.ext (Ex.put np)
    generalize upd H' p (pot p) = H0 at hp x0 T2 ⊢
    walk_at "vc"
    refine ⟨by decide, ?_⟩
    refine lcB (fun i acc H2 => ExtN H0 H2 ∧ Tabs (lT T) H2 ∧ acc = List.replicate i (V.bl true)) ⟨LamX.ExtN.refl H0, T2, rfl⟩ (fun i acc H2 hi P => ⟨trivial, by rw [P.2.2, List.length_replicate]; omega⟩) (fun i acc H2 d hi P nd => ?_) (fun acc H2 l P nl => ?_)
    · obtain ⟨x2, T3, rfl⟩ := P
      walk_at "vc"
      refine ⟨rfl, ?_⟩
      refine ⟨fun _ => ?_, fun z => nomatch z⟩
      walk_at "vc"
      have hpd := x2 _ _ hp pot_ne
      refine near_ok T (hp_ne nd hpd) (T3.ext (Ex.put nd)) fun H5 x5 T5 => ?_
      have hd : H5 d = some (.lst (List.replicate i (V.bl true))) := x5 _ _ upd_same fun ps z => by cases z
      refine ⟨del H5 d, del_same, fun b o e => ?_, fun b o e n => ?_, fun p9 hp9 => TabS.del hd (T5 p9 hp9), (List.replicate_succ' ..).symm⟩
      · by_cases z : b = d
        · subst z; rw [upd_same] at e; cases e; exact hd
        · rw [upd_ne z, del_ne z] at e; exact e
      · have e2 := x2 _ _ e n
        have nb : b ≠ d := ne_of_none e2 nd
        rw [del_ne nb]
        exact x5 _ _ (by rw [upd_ne nb]; exact e2) n
    · obtain ⟨x2, T3, rfl⟩ := P
      have hpl := hp_ne (o := .lst (List.replicate 3 (V.bl true))) nl (x2 _ _ hp pot_ne)
      have xl : ExtN H (upd H2 l (.lst (List.replicate 3 (V.bl true)))) := (x0.trans x2).trans (.of (Ex.put nl))
      have Tl : Tabs (lT T) (upd H2 l (.lst (List.replicate 3 (V.bl true)))) := T3.ext (Ex.put nl)
      have hll : upd H2 l (.lst (List.replicate 3 (V.bl true))) l = some (.lst (List.replicate 3 (V.bl true))) := upd_same
      show _
      walk_at "vc"
      refine ⟨l, List.replicate 3 true, rfl, .of hll, ?_⟩
      walk_at "vc"
      refine ⟨(fun z => by simp at z), fun _ => ?_⟩
      walk_at "vc"
      refine far_ok T hpl ?_
      walk_at "vc"
      exact ⟨(fun z => nomatch z), fun _ => fg.i ⟨xl, Tl, _, _, _, rfl⟩⟩
  · obtain ⟨xx, T1, a1, a2, a3, rfl⟩ := P
    walk_at "vc"
    exact fg.i (q _)
end

theorem fin {l : PySem.W.OpenLaw} {w : World} {K : PySem.W.Frag} {h : Heap} {mg : Str → Option Value} {fa f0 f1 f2 f3 f4 f5 f6 f7 f8 f9 f10 f11 f12 f13 f14 f15 f16 ck16 cP16 f17 f18 f19 f20 C_InvalidVersion C_InvalidNumber : Addr} {od0 an0 od1 an1 od2 an2 od3 an3 od4 an4 od5 an5 od6 an6 od7 an7 od8 an8 od9 an9 od10 an10 od11 an11 od12 an12 od13 an13 od14 an14 od15 an15 od16 an16 odk16 od17 an17 od18 an18 od19 an19 od20 an20 : Option Addr} {sl0 sl1 sl2 sl3 sl4 sl5 sl6 sl7 sl8 sl9 sl10 sl11 sl12 sl13 sl14 sl15 sl16 slk16 sl17 sl18 sl19 sl20 : Array (Option Value)} {oc0 kV0 dc0 pm0 cd0 ct0 oc1 kV1 dc1 pm1 cd1 ct1 oc2 kV2 dc2 pm2 cd2 ct2 oc3 kV3 dc3 pm3 cd3 ct3 oc4 kV4 dc4 pm4 cd4 ct4 oc5 kV5 dc5 pm5 cd5 ct5 oc6 kV6 dc6 pm6 cd6 ct6 oc7 kV7 dc7 pm7 cd7 ct7 oc8 kV8 dc8 pm8 cd8 ct8 oc9 kV9 dc9 pm9 cd9 ct9 oc10 kV10 dc10 pm10 cd10 ct10 oc11 kV11 dc11 pm11 cd11 ct11 oc12 kV12 dc12 pm12 cd12 ct12 oc13 kV13 dc13 pm13 cd13 ct13 oc14 kV14 dc14 pm14 cd14 ct14 oc15 kV15 dc15 pm15 cd15 ct15 oc16 kV16 dc16 pm16 ct16 oc17 kV17 dc17 pm17 cd17 ct17 oc18 kV18 dc18 pm18 cd18 ct18 oc19 kV19 dc19 pm19 cd19 ct19 oc20 kV20 dc20 pm20 cd20 ct20 : Value} {vsk16 : Array Value} (X : K.In h) (G : h.Ns mainGlobals mg) (hfa : mg "law" = some (.ref fa))
    (a0 : PySem.W.nsIn K mainGlobals "is_int" = some (some (.ref f0)))
    (l0 : K.lookup f0 = some ⟨oc0, od0, .func (PySem.W.fnOf "is_int" "is_int" (defArgs s_is_int) (defBody s_is_int) (defScope s_is_int) .none kV0 dc0 pm0 an0 cd0 ct0), sl0⟩)
    (c0 : PySem.W.codeIn K cd0 "is_int" = true)
    (k0 : PySem.W.keepIn K (.ref f0) = true)
    (a1 : PySem.W.nsIn K mainGlobals "is_version" = some (some (.ref f1)))
    (l1 : K.lookup f1 = some ⟨oc1, od1, .func (PySem.W.fnOf "is_version" "is_version" (defArgs s_is_version) (defBody s_is_version) (defScope s_is_version) .none kV1 dc1 pm1 an1 cd1 ct1), sl1⟩)
    (c1 : PySem.W.codeIn K cd1 "is_version" = true)
    (k1 : PySem.W.keepIn K (.ref f1) = true)
    (a2 : PySem.W.nsIn K mainGlobals "want_version" = some (some (.ref f2)))
    (l2 : K.lookup f2 = some ⟨oc2, od2, .func (PySem.W.fnOf "want_version" "want_version" (defArgs s_want_version) (defBody s_want_version) (defScope s_want_version) .none kV2 dc2 pm2 an2 cd2 ct2), sl2⟩)
    (c2 : PySem.W.codeIn K cd2 "want_version" = true)
    (k2 : PySem.W.keepIn K (.ref f2) = true)
    (a3 : PySem.W.nsIn K mainGlobals "want_number" = some (some (.ref f3)))
    (l3 : K.lookup f3 = some ⟨oc3, od3, .func (PySem.W.fnOf "want_number" "want_number" (defArgs s_want_number) (defBody s_want_number) (defScope s_want_number) .none kV3 dc3 pm3 an3 cd3 ct3), sl3⟩)
    (c3 : PySem.W.codeIn K cd3 "want_number" = true)
    (k3 : PySem.W.keepIn K (.ref f3) = true)
    (a4 : PySem.W.nsIn K mainGlobals "lowest_bit" = some (some (.ref f4)))
    (l4 : K.lookup f4 = some ⟨oc4, od4, .func (PySem.W.fnOf "lowest_bit" "lowest_bit" (defArgs s_lowest_bit) (defBody s_lowest_bit) (defScope s_lowest_bit) .none kV4 dc4 pm4 an4 cd4 ct4), sl4⟩)
    (c4 : PySem.W.codeIn K cd4 "lowest_bit" = true)
    (k4 : PySem.W.keepIn K (.ref f4) = true)
    (a5 : PySem.W.nsIn K mainGlobals "precedes" = some (some (.ref f5)))
    (l5 : K.lookup f5 = some ⟨oc5, od5, .func (PySem.W.fnOf "precedes" "precedes" (defArgs s_precedes) (defBody s_precedes) (defScope s_precedes) .none kV5 dc5 pm5 an5 cd5 ct5), sl5⟩)
    (c5 : PySem.W.codeIn K cd5 "precedes" = true)
    (k5 : PySem.W.keepIn K (.ref f5) = true)
    (a6 : PySem.W.nsIn K mainGlobals "odd_multiples" = some (some (.ref f6)))
    (l6 : K.lookup f6 = some ⟨oc6, od6, .func (PySem.W.fnOf "odd_multiples" "odd_multiples" (defArgs s_odd_multiples) (defBody s_odd_multiples) (defScope s_odd_multiples) .none kV6 dc6 pm6 an6 cd6 ct6), sl6⟩)
    (c6 : PySem.W.codeIn K cd6 "odd_multiples" = true)
    (k6 : PySem.W.keepIn K (.ref f6) = true)
    (a7 : PySem.W.nsIn K mainGlobals "strongest" = some (some (.ref f7)))
    (l7 : K.lookup f7 = some ⟨oc7, od7, .func (PySem.W.fnOf "strongest" "strongest" (defArgs s_strongest) (defBody s_strongest) (defScope s_strongest) .none kV7 dc7 pm7 an7 cd7 ct7), sl7⟩)
    (c7 : PySem.W.codeIn K cd7 "strongest" = true)
    (k7 : PySem.W.keepIn K (.ref f7) = true)
    (a8 : PySem.W.nsIn K mainGlobals "count_multiples" = some (some (.ref f8)))
    (l8 : K.lookup f8 = some ⟨oc8, od8, .func (PySem.W.fnOf "count_multiples" "count_multiples" (defArgs s_count_multiples) (defBody s_count_multiples) (defScope s_count_multiples) .none kV8 dc8 pm8 an8 cd8 ct8), sl8⟩)
    (c8 : PySem.W.codeIn K cd8 "count_multiples" = true)
    (k8 : PySem.W.keepIn K (.ref f8) = true)
    (a9 : PySem.W.nsIn K mainGlobals "count_stronger" = some (some (.ref f9)))
    (l9 : K.lookup f9 = some ⟨oc9, od9, .func (PySem.W.fnOf "count_stronger" "count_stronger" (defArgs s_count_stronger) (defBody s_count_stronger) (defScope s_count_stronger) .none kV9 dc9 pm9 an9 cd9 ct9), sl9⟩)
    (c9 : PySem.W.codeIn K cd9 "count_stronger" = true)
    (k9 : PySem.W.keepIn K (.ref f9) = true)
    (a10 : PySem.W.nsIn K mainGlobals "_law_pot" = some (some (.ref f10)))
    (l10 : K.lookup f10 = some ⟨oc10, od10, .func (PySem.W.fnOf "_law_pot" "_law_pot" (defArgs s__law_pot) (defBody s__law_pot) (defScope s__law_pot) .none kV10 dc10 pm10 an10 cd10 ct10), sl10⟩)
    (c10 : PySem.W.codeIn K cd10 "_law_pot" = true)
    (k10 : PySem.W.keepIn K (.ref f10) = true)
    (a11 : PySem.W.nsIn K mainGlobals "_law_digit" = some (some (.ref f11)))
    (l11 : K.lookup f11 = some ⟨oc11, od11, .func (PySem.W.fnOf "_law_digit" "_law_digit" (defArgs s__law_digit) (defBody s__law_digit) (defScope s__law_digit) .none kV11 dc11 pm11 an11 cd11 ct11), sl11⟩)
    (c11 : PySem.W.codeIn K cd11 "_law_digit" = true)
    (k11 : PySem.W.keepIn K (.ref f11) = true)
    (a12 : PySem.W.nsIn K mainGlobals "_law_pick" = some (some (.ref f12)))
    (l12 : K.lookup f12 = some ⟨oc12, od12, .func (PySem.W.fnOf "_law_pick" "_law_pick" (defArgs s__law_pick) (defBody s__law_pick) (defScope s__law_pick) .none kV12 dc12 pm12 an12 cd12 ct12), sl12⟩)
    (c12 : PySem.W.codeIn K cd12 "_law_pick" = true)
    (k12 : PySem.W.keepIn K (.ref f12) = true)
    (a13 : PySem.W.nsIn K mainGlobals "_law_first_power" = some (some (.ref f13)))
    (l13 : K.lookup f13 = some ⟨oc13, od13, .func (PySem.W.fnOf "_law_first_power" "_law_first_power" (defArgs s__law_first_power) (defBody s__law_first_power) (defScope s__law_first_power) .none kV13 dc13 pm13 an13 cd13 ct13), sl13⟩)
    (c13 : PySem.W.codeIn K cd13 "_law_first_power" = true)
    (k13 : PySem.W.keepIn K (.ref f13) = true)
    (a14 : PySem.W.nsIn K mainGlobals "_law_own_key" = some (some (.ref f14)))
    (l14 : K.lookup f14 = some ⟨oc14, od14, .func (PySem.W.fnOf "_law_own_key" "_law_own_key" (defArgs s__law_own_key) (defBody s__law_own_key) (defScope s__law_own_key) .none kV14 dc14 pm14 an14 cd14 ct14), sl14⟩)
    (c14 : PySem.W.codeIn K cd14 "_law_own_key" = true)
    (k14 : PySem.W.keepIn K (.ref f14) = true)
    (a15 : PySem.W.nsIn K mainGlobals "_law_begin" = some (some (.ref f15)))
    (l15 : K.lookup f15 = some ⟨oc15, od15, .func (PySem.W.fnOf "_law_begin" "_law_begin" (defArgs s__law_begin) (defBody s__law_begin) (defScope s__law_begin) .none kV15 dc15 pm15 an15 cd15 ct15), sl15⟩)
    (c15 : PySem.W.codeIn K cd15 "_law_begin" = true)
    (k15 : PySem.W.keepIn K (.ref f15) = true)
    (a16 : PySem.W.nsIn K mainGlobals "_law_near_right" = some (some (.ref f16)))
    (l16 : K.lookup f16 = some ⟨oc16, od16, .func (PySem.W.fnOf "_law_near_right" "_law_near_right" (defArgs s__law_near_right) (defBody s__law_near_right) (defScope s__law_near_right) .none kV16 dc16 pm16 an16 (.ref ck16) ct16), sl16⟩)
    (c16 : PySem.W.codeIn K (.ref ck16) "_law_near_right" = true)
    (lk16 : K.lookup ck16 = some ⟨.type "code", odk16, .fields vsk16, slk16⟩)
    (lp16 : vsk16[11]? = some (.ref cP16))
    (hd16 : PySem.W.codeHdIn K ck16 cP16 = true)
    (np16 : K.lookup cP16 = none)
    (te16 : h.get? cP16 = some { cls := .none, data := .fields #[] })
    (k16 : PySem.W.keepIn K (.ref f16) = true)
    (a17 : PySem.W.nsIn K mainGlobals "_law_multiples" = some (some (.ref f17)))
    (l17 : K.lookup f17 = some ⟨oc17, od17, .func (PySem.W.fnOf "_law_multiples" "_law_multiples" (defArgs s__law_multiples) (defBody s__law_multiples) (defScope s__law_multiples) .none kV17 dc17 pm17 an17 cd17 ct17), sl17⟩)
    (c17 : PySem.W.codeIn K cd17 "_law_multiples" = true)
    (k17 : PySem.W.keepIn K (.ref f17) = true)
    (a18 : PySem.W.nsIn K mainGlobals "_law_stronger" = some (some (.ref f18)))
    (l18 : K.lookup f18 = some ⟨oc18, od18, .func (PySem.W.fnOf "_law_stronger" "_law_stronger" (defArgs s__law_stronger) (defBody s__law_stronger) (defScope s__law_stronger) .none kV18 dc18 pm18 an18 cd18 ct18), sl18⟩)
    (c18 : PySem.W.codeIn K cd18 "_law_stronger" = true)
    (k18 : PySem.W.keepIn K (.ref f18) = true)
    (a19 : PySem.W.nsIn K mainGlobals "_law_far_right" = some (some (.ref f19)))
    (l19 : K.lookup f19 = some ⟨oc19, od19, .func (PySem.W.fnOf "_law_far_right" "_law_far_right" (defArgs s__law_far_right) (defBody s__law_far_right) (defScope s__law_far_right) .none kV19 dc19 pm19 an19 cd19 ct19), sl19⟩)
    (c19 : PySem.W.codeIn K cd19 "_law_far_right" = true)
    (k19 : PySem.W.keepIn K (.ref f19) = true)
    (a20 : PySem.W.nsIn K mainGlobals "law" = some (some (.ref f20)))
    (l20 : K.lookup f20 = some ⟨oc20, od20, .func (PySem.W.fnOf "law" "law" (defArgs s_law) (defBody s_law) (defScope s_law) .none kV20 dc20 pm20 an20 cd20 ct20), sl20⟩)
    (c20 : PySem.W.codeIn K cd20 "law" = true)
    (k20 : PySem.W.keepIn K (.ref f20) = true)
    (g_InvalidVersion : PySem.W.nsIn K mainGlobals "InvalidVersion" = some (some (.ref C_InvalidVersion)))
    (sb_InvalidVersion : PySem.W.subIn K (.ref C_InvalidVersion) (.type "BaseException") = some true)
    (ty_InvalidVersion : PySem.W.typeIn K (.ref C_InvalidVersion) = some (.type "type"))
    (dd_InvalidVersion : PySem.W.hasDictIn K C_InvalidVersion = true)
    (xc_InvalidVersion : PySem.W.excIn K C_InvalidVersion [.type "ValueError", .type "Exception", .type "BaseException", .type "object"] "ValueError.__new__" = true)
    (kp_InvalidVersion : PySem.W.keepIn K (.ref C_InvalidVersion) = true)
    (g_InvalidNumber : PySem.W.nsIn K mainGlobals "InvalidNumber" = some (some (.ref C_InvalidNumber)))
    (sb_InvalidNumber : PySem.W.subIn K (.ref C_InvalidNumber) (.type "BaseException") = some true)
    (ty_InvalidNumber : PySem.W.typeIn K (.ref C_InvalidNumber) = some (.type "type"))
    (dd_InvalidNumber : PySem.W.hasDictIn K C_InvalidNumber = true)
    (xc_InvalidNumber : PySem.W.excIn K C_InvalidNumber [.type "ValueError", .type "Exception", .type "BaseException", .type "object"] "ValueError.__new__" = true)
    (kp_InvalidNumber : PySem.W.keepIn K (.ref C_InvalidNumber) = true)
    (z_ValueError : PySem.W.nsIn K mainGlobals "ValueError" = some none)
    (z_abs : PySem.W.nsIn K mainGlobals "abs" = some none)
    (z_all : PySem.W.nsIn K mainGlobals "all" = some none)
    (z_bool : PySem.W.nsIn K mainGlobals "bool" = some none)
    (z_divmod : PySem.W.nsIn K mainGlobals "divmod" = some none)
    (z_enumerate : PySem.W.nsIn K mainGlobals "enumerate" = some none)
    (z_int : PySem.W.nsIn K mainGlobals "int" = some none)
    (z_isinstance : PySem.W.nsIn K mainGlobals "isinstance" = some none)
    (z_len : PySem.W.nsIn K mainGlobals "len" = some none)
    (z_list : PySem.W.nsIn K mainGlobals "list" = some none)
    (z_max : PySem.W.nsIn K mainGlobals "max" = some none)
    (z_min : PySem.W.nsIn K mainGlobals "min" = some none)
    (z_range : PySem.W.nsIn K mainGlobals "range" = some none)
    (z_repr : PySem.W.nsIn K mainGlobals "repr" = some none)
    (z_sorted : PySem.W.nsIn K mainGlobals "sorted" = some none)
    (z_zip : PySem.W.nsIn K mainGlobals "zip" = some none)
    : LawT l w K 7 63 "_law_script" mg fa h := by
  let D : Def K mg "law" s_law ["_law_script"] := def_mk ["_law_script"] X G a20 l20 c20 k20 fun us hl => match us, hl with | [_], _ => rfl
  let T : ∀ base : Heap, SysB base → (∀ p ∈ ([(ck16, cP16)] : List (Addr × Addr)), LamX.TabB base mg p.1 p.2) → All base K mg := fun base hsys hTB => {
    is_int := def_mk ["value"] X G a0 l0 c0 k0 fun us hl => match us, hl with | [_], _ => rfl,
    is_version := def_mk ["value"] X G a1 l1 c1 k1 fun us hl => match us, hl with | [_], _ => rfl,
    want_version := def_mk ["value"] X G a2 l2 c2 k2 fun us hl => match us, hl with | [_], _ => rfl,
    want_number := def_mk ["value", "least"] X G a3 l3 c3 k3 fun us hl => match us, hl with | [_, _], _ => rfl,
    lowest_bit := def_mk ["version"] X G a4 l4 c4 k4 fun us hl => match us, hl with | [_], _ => rfl,
    precedes := def_mk ["version", "other"] X G a5 l5 c5 k5 fun us hl => match us, hl with | [_, _], _ => rfl,
    odd_multiples := def_mk ["low", "high", "power", "count"] X G a6 l6 c6 k6 fun us hl => match us, hl with | [_, _, _, _], _ => rfl,
    strongest := def_mk ["low", "high", "count"] X G a7 l7 c7 k7 fun us hl => match us, hl with | [_, _, _], _ => rfl,
    count_multiples := def_mk ["low", "high", "divisor"] X G a8 l8 c8 k8 fun us hl => match us, hl with | [_, _, _], _ => rfl,
    count_stronger := def_mk ["version", "low", "high"] X G a9 l9 c9 k9 fun us hl => match us, hl with | [_, _, _], _ => rfl,
    _law_pot := def_mk ["_law_script", "_law_k"] X G a10 l10 c10 k10 fun us hl => match us, hl with | [_, _], _ => rfl,
    _law_digit := def_mk ["_law_pot_here", "_law_many"] X G a11 l11 c11 k11 fun us hl => match us, hl with | [_, _], _ => rfl,
    _law_pick := def_mk ["_law_pot_here", "_law_some"] X G a12 l12 c12 k12 fun us hl => match us, hl with | [_, _], _ => rfl,
    _law_first_power := def_mk ["_law_version"] X G a13 l13 c13 k13 fun us hl => match us, hl with | [_], _ => rfl,
    _law_own_key := def_mk ["_law_version"] X G a14 l14 c14 k14 fun us hl => match us, hl with | [_], _ => rfl,
    _law_begin := def_mk ["_law_pot_here"] X G a15 l15 c15 k15 fun us hl => match us, hl with | [_], _ => rfl,
    _law_near_right := def_mk ["_law_pot_here"] X G a16 l16 c16 k16 fun us hl => match us, hl with | [_], _ => rfl,
    _law_multiples := def_mk ["_law_first", "_law_last", "_law_power"] X G a17 l17 c17 k17 fun us hl => match us, hl with | [_, _, _], _ => rfl,
    _law_stronger := def_mk ["_law_version", "_law_first", "_law_last"] X G a18 l18 c18 k18 fun us hl => match us, hl with | [_, _, _], _ => rfl,
    _law_far_right := def_mk ["_law_pot_here"] X G a19 l19 c19 k19 fun us hl => match us, hl with | [_], _ => rfl,
    law := D,
    InvalidVersion := C_InvalidVersion,
    InvalidVersion_g := PySem.W.mg_of X G g_InvalidVersion,
    InvalidVersion_e := ⟨PySem.W.mg_of X G g_InvalidVersion, xc_InvalidVersion, kp_InvalidVersion, sb_InvalidVersion, ty_InvalidVersion, dd_InvalidVersion⟩,
    InvalidNumber := C_InvalidNumber,
    InvalidNumber_g := PySem.W.mg_of X G g_InvalidNumber,
    InvalidNumber_e := ⟨PySem.W.mg_of X G g_InvalidNumber, xc_InvalidNumber, kp_InvalidNumber, sb_InvalidNumber, ty_InvalidNumber, dd_InvalidNumber⟩,
    sys := hsys,
    mk__law_near_right := ⟨ck16, cP16, rfl, hTB (ck16, cP16) (.head _)⟩,
    n_ValueError := PySem.W.mg_none_of X G z_ValueError,
    n_abs := PySem.W.mg_none_of X G z_abs,
    n_all := PySem.W.mg_none_of X G z_all,
    n_bool := PySem.W.mg_none_of X G z_bool,
    n_divmod := PySem.W.mg_none_of X G z_divmod,
    n_enumerate := PySem.W.mg_none_of X G z_enumerate,
    n_int := PySem.W.mg_none_of X G z_int,
    n_isinstance := PySem.W.mg_none_of X G z_isinstance,
    n_len := PySem.W.mg_none_of X G z_len,
    n_list := PySem.W.mg_none_of X G z_list,
    n_max := PySem.W.mg_none_of X G z_max,
    n_min := PySem.W.mg_none_of X G z_min,
    n_range := PySem.W.mg_none_of X G z_range,
    n_repr := PySem.W.mg_none_of X G z_repr,
    n_sorted := PySem.W.mg_none_of X G z_sorted,
    n_zip := PySem.W.mg_none_of X G z_zip }
  exact law_endT (cs := [(ck16, cP16)]) D hfa (fun us hl => match us, hl with | [_], _ => rfl) (by intro p hp; simp only [List.mem_cons, List.not_mem_nil, or_false] at hp; rcases hp with rfl <;> first | exact te16) (by intro p hp; simp only [List.mem_cons, List.not_mem_nil, or_false] at hp; rcases hp with rfl <;> first | exact np16) (by intro p hp; simp only [List.mem_cons, List.not_mem_nil, or_false] at hp; rcases hp with rfl <;> first | exact PySem.W.codeHd_of_K X hd16) fun base hsys hTB => (ok_law (T base hsys hTB)).atEndT fun hs hl hc _ _ q => law_ok (T base hsys hTB) hs hl hc q
end L2.G
open PySem PySem.W PyProof.Rows
set_option maxRecDepth 100000 in
set_option maxHeartbeats 0 in
theorem PySem.Challenge.cw_sampledversions_k13_whole_strongest_holds : PySem.Challenge.rw_sampledversions_k13_whole_strongest.Holds := by
  w_on; o_law; k_head; (case hw => w_witness2)
  k_fill
  refine L2.G.walk_endT (l := PySem.Challenge.rw_sampledversions_k13_whole_strongest) (n := 63) (k := 7) (x := "_law_script") rfl (by decide) (by decide +kernel) rfl ⟨rfl, by decide, by decide⟩ (fun w h Y => PySem.W.km_in_of Y) ?F
  case F =>
    intro w mg fa h Y KX G hmg
    refine' L2.G.fin KX G hmg ?a0 ?l0 ?c0 ?k0 ?a1 ?l1 ?c1 ?k1 ?a2 ?l2 ?c2 ?k2 ?a3 ?l3 ?c3 ?k3 ?a4 ?l4 ?c4 ?k4 ?a5 ?l5 ?c5 ?k5 ?a6 ?l6 ?c6 ?k6 ?a7 ?l7 ?c7 ?k7 ?a8 ?l8 ?c8 ?k8 ?a9 ?l9 ?c9 ?k9 ?a10 ?l10 ?c10 ?k10 ?a11 ?l11 ?c11 ?k11 ?a12 ?l12 ?c12 ?k12 ?a13 ?l13 ?c13 ?k13 ?a14 ?l14 ?c14 ?k14 ?a15 ?l15 ?c15 ?k15 ?a16 ?l16 ?c16 ?lk16 ?lp16 ?hd16 ?np16 ?te16 ?k16 ?a17 ?l17 ?c17 ?k17 ?a18 ?l18 ?c18 ?k18 ?a19 ?l19 ?c19 ?k19 ?a20 ?l20 ?c20 ?k20 ?g_InvalidVersion ?sb_InvalidVersion ?ty_InvalidVersion ?dd_InvalidVersion ?xc_InvalidVersion ?kp_InvalidVersion ?g_InvalidNumber ?sb_InvalidNumber ?ty_InvalidNumber ?dd_InvalidNumber ?xc_InvalidNumber ?kp_InvalidNumber ?z_ValueError ?z_abs ?z_all ?z_bool ?z_divmod ?z_enumerate ?z_int ?z_isinstance ?z_len ?z_list ?z_max ?z_min ?z_range ?z_repr ?z_sorted ?z_zip
    (case a0 => k_is)
    (case l0 => k_is)
    (case c0 => k_is)
    (case k0 => k_is)
    (case a1 => k_is)
    (case l1 => k_is)
    (case c1 => k_is)
    (case k1 => k_is)
    (case a2 => k_is)
    (case l2 => k_is)
    (case c2 => k_is)
    (case k2 => k_is)
    (case a3 => k_is)
    (case l3 => k_is)
    (case c3 => k_is)
    (case k3 => k_is)
    (case a4 => k_is)
    (case l4 => k_is)
    (case c4 => k_is)
    (case k4 => k_is)
    (case a5 => k_is)
    (case l5 => k_is)
    (case c5 => k_is)
    (case k5 => k_is)
    (case a6 => k_is)
    (case l6 => k_is)
    (case c6 => k_is)
    (case k6 => k_is)
    (case a7 => k_is)
    (case l7 => k_is)
    (case c7 => k_is)
    (case k7 => k_is)
    (case a8 => k_is)
    (case l8 => k_is)
    (case c8 => k_is)
    (case k8 => k_is)
    (case a9 => k_is)
    (case l9 => k_is)
    (case c9 => k_is)
    (case k9 => k_is)
    (case a10 => k_is)
    (case l10 => k_is)
    (case c10 => k_is)
    (case k10 => k_is)
    (case a11 => k_is)
    (case l11 => k_is)
    (case c11 => k_is)
    (case k11 => k_is)
    (case a12 => k_is)
    (case l12 => k_is)
    (case c12 => k_is)
    (case k12 => k_is)
    (case a13 => k_is)
    (case l13 => k_is)
    (case c13 => k_is)
    (case k13 => k_is)
    (case a14 => k_is)
    (case l14 => k_is)
    (case c14 => k_is)
    (case k14 => k_is)
    (case a15 => k_is)
    (case l15 => k_is)
    (case c15 => k_is)
    (case k15 => k_is)
    (case a16 => k_is)
    (case l16 => k_is)
    (case c16 => k_is)
    (case lk16 => k_is)
    (case lp16 => rfl)
    (case hd16 => kernel_rfl)
    (case np16 => kernel_rfl)
    (case te16 => exact PySem.W.km_tabs_of Y _ (by decide))
    (case k16 => k_is)
    (case a17 => k_is)
    (case l17 => k_is)
    (case c17 => k_is)
    (case k17 => k_is)
    (case a18 => k_is)
    (case l18 => k_is)
    (case c18 => k_is)
    (case k18 => k_is)
    (case a19 => k_is)
    (case l19 => k_is)
    (case c19 => k_is)
    (case k19 => k_is)
    (case a20 => k_is)
    (case l20 => k_is)
    (case c20 => k_is)
    (case k20 => k_is)
    (case g_InvalidVersion => k_is)
    (case sb_InvalidVersion => k_is)
    (case ty_InvalidVersion => k_is)
    (case dd_InvalidVersion => k_is)
    (case xc_InvalidVersion => k_exc)
    (case kp_InvalidVersion => k_is)
    (case g_InvalidNumber => k_is)
    (case sb_InvalidNumber => k_is)
    (case ty_InvalidNumber => k_is)
    (case dd_InvalidNumber => k_is)
    (case xc_InvalidNumber => k_exc)
    (case kp_InvalidNumber => k_is)
    (case z_ValueError => k_is)
    (case z_abs => k_is)
    (case z_all => k_is)
    (case z_bool => k_is)
    (case z_divmod => k_is)
    (case z_enumerate => k_is)
    (case z_int => k_is)
    (case z_isinstance => k_is)
    (case z_len => k_is)
    (case z_list => k_is)
    (case z_max => k_is)
    (case z_min => k_is)
    (case z_range => k_is)
    (case z_repr => k_is)
    (case z_sorted => k_is)
    (case z_zip => k_is)

