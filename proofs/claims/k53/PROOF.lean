import PyProof.Rows.All
import Wide.All
import OpenK.AllK
import Wide.FinOn
import HandS.ForMost
import HandS.Exc
import HandS.TryOnly
import HandS.TryMany
import HandS.ExcOwn
import HandS.ExcInit
import HandS.ExcIs
import HandS.Small
import HandS.IsInst
import HandS.WideBits
import HandS.FStr
import HandS.WordsExc
import HandS.RaiseMore
import HandS.EndBits
import HandS.Comp
import HandS.List
import HandS.Iter
import PyProof.ReprRoads
import PyProof.ReprBulk
import HandS.Style
import PyProof.SumWalkG
import HandS.Defaults
import HandS.MakeKwOnly
import HandS.Walk
import HandS.TupLe
import HandS.SortInts
import HandS.OwnEq
import HandS.Conv
import HandS.TupAny
import HandS.SetFor
import HandS.TupMul
import HandS.Codes
import HandS.SortKw
import HandS.ExcValue
import KE.SortKeyHeap
import KE.KRevSl
import HandS.DictSub
import PyProof.InstNe
import HandS.Deep
import HandS.More
import HandS.SetKeys
import HandS.Strs
import PyProof.Rows.CountFlat
import KE.DataMinKey
import HandS.DictComp
import HandS.ListItems
import PySem.Challenge.RW_sampledversions_k53_whole_common_version
set_option Elab.async false
set_option linter.all false
set_option maxRecDepth 100000
set_option maxHeartbeats 4000000
namespace L2.G
open PySem PySem.Spec PyProof.Rows
/-! A layer of our own over HandS: weakest preconditions on the expressions themselves, the heap known from below, calls with no repr at work. -/

/-! ## heaps from below -/
def Ex (H H' : Hp) : Prop := ∀ a o, H a = some o → H' a = some o
theorem Ex.refl (H : Hp) : Ex H H := fun _ _ h => h
theorem Ex.trans {H H1 H2 : Hp} (a : Ex H H1) (b : Ex H1 H2) : Ex H H2 := fun x o h => b x o (a x o h)
theorem Ex.free {H H' : Hp} (e : Ex H H') {p : Addr} (h : H' p = none) : H p = none := by
  cases q : H p with
  | none => rfl
  | some o => rw [e p o q] at h; cases h
theorem Ex.new {H H' : Hp} {p : Addr} {o : HO} (e : Ex H H') (h : H' p = none) : Ex H (upd H' p o) := fun a u ha => by
  rw [upd_ne (ne_of_none (e a u ha) h)]
  exact e a u ha
theorem Ex.set {H H' : Hp} (e : Ex H H') (p : Addr) (o : HO) : Ex (upd H p o) (upd H' p o) := fun a u ha => by
  by_cases h : a = p
  · subst h; rw [upd_same] at ha ⊢; exact ha
  · rw [upd_ne h] at ha ⊢; exact e a u ha
theorem Ex.put {H : Hp} {p : Addr} {o : HO} (h : H p = none) : Ex H (upd H p o) := Ex.new (Ex.refl H) h
theorem Ex.rd {H H' : Hp} {a : Addr} {u : HO} (e : Ex H H') (h : Rd H a u) : Rd H' a u := by
  rcases h with h | ⟨o, h⟩
  · exact Or.inl (e a _ h)
  · exact Or.inr ⟨o, e a _ h⟩
theorem Ex.sqL {K : PySem.W.Frag} {H H' : Hp} {a : Addr} {xs : List V} (e : Ex H H') (h : SqL K H a xs) : SqL K H' a xs := by
  rcases h with h | h
  · exact Or.inl (e.rd h)
  · exact Or.inr h
theorem Ex.sqT {K : PySem.W.Frag} {H H' : Hp} {a : Addr} {xs : List V} (e : Ex H H') (h : SqT K H a xs) : SqT K H' a xs := by
  rcases h with h | h
  · exact Or.inl (e.rd h)
  · exact Or.inr h

/-! ## wishes, lifted -/
def up (Q : VK) : VK := fun v H2 => ∃ H', Ex H' H2 ∧ Q v H'
def upB (Q : Bool → Hp → Prop) : Bool → Hp → Prop := fun v H2 => ∃ H', Ex H' H2 ∧ Q v H'
def upA (Q : List V → Hp → Prop) : List V → Hp → Prop := fun v H2 => ∃ H', Ex H' H2 ∧ Q v H'
def upS (Q : St → Hp → Prop) : St → Hp → Prop := fun v H2 => ∃ H', Ex H' H2 ∧ Q v H'
def upE (Q : XK) : XK := fun c d H2 => ∃ H', Ex H' H2 ∧ Q c d H'
def upD (D : Ends) : Ends := { nx := upS D.nx, rt := up D.rt, bk := upS D.bk, ct := upS D.ct }
theorem up.i {Q : VK} {v : V} {H : Hp} (q : Q v H) : up Q v H := ⟨H, Ex.refl H, q⟩
theorem upS.i {Q : St → Hp → Prop} {v : St} {H : Hp} (q : Q v H) : upS Q v H := ⟨H, Ex.refl H, q⟩
theorem upB.i {Q : Bool → Hp → Prop} {v : Bool} {H : Hp} (q : Q v H) : upB Q v H := ⟨H, Ex.refl H, q⟩
theorem upA.i {Q : List V → Hp → Prop} {v : List V} {H : Hp} (q : Q v H) : upA Q v H := ⟨H, Ex.refl H, q⟩

/-! ## weakest preconditions -/
def WE (X : Cx) (e : Expr) (σ : St) (H : Hp) (Q : VK) : Prop :=
  ∀ H1, Ex H H1 → ∀ pins s, Inv X pins σ H1 s → wpAny (model X.prog X.w) X.A (eval e X.env) (EP X pins σ (up Q)) X.xe s
def WT (X : Cx) (e : Expr) (σ : St) (H : Hp) (Q : Bool → Hp → Prop) : Prop :=
  ∀ H1, Ex H H1 → ∀ pins s, Inv X pins σ H1 s → wpAny (model X.prog X.w) X.A (isTrue e X.env (eval e X.env)) (TP X pins σ (upB Q)) X.xe s
def WW (X : Cx) (e : Expr) (σ : St) (H : Hp) (Q : Bool → Hp → Prop) : Prop :=
  ∀ H1, Ex H H1 → ∀ whole pins s, Inv X pins σ H1 s → wpAny (model X.prog X.w) X.A (isTrue e X.env whole) (TP X pins σ (upB Q)) X.xe s
def WA (X : Cx) (es : List Expr) (σ : St) (H : Hp) (Q : List V → Hp → Prop) : Prop :=
  ∀ H1, Ex H H1 → ∀ pos pins s, Inv X pins σ H1 s → wpAny (model X.prog X.w) X.A (spliced (backTo pos (starEach es X.env))) (AP X pins σ (upA Q)) X.xe s
def WS (X : Cx) (st : Stmt) (D : Ends) (σ : St) (H : Hp) : Prop :=
  ∀ H1, Ex H H1 → ∀ pins s, Inv X pins σ H1 s → wpAny (model X.prog X.w) X.A (exec st X.env) (SP X pins (upD D)) X.xe s
def WSs (X : Cx) (st : List Stmt) (D : Ends) (σ : St) (H : Hp) : Prop :=
  ∀ H1, Ex H H1 → ∀ pins s, Inv X pins σ H1 s → wpAny (model X.prog X.w) X.A (execs st X.env) (SP X pins (upD D)) X.xe s
/-- an operation on two values | a call of a value | a method's call | a subscript -/
def WO (X : Cx) (f : Value → Value → Sem Value) (x y : V) (H : Hp) (Q : VK) : Prop :=
  ∀ H1, Ex H H1 → ∀ pins s σ v u, Inv X pins σ H1 s → RelV x v → RelV y u → wpAny (model X.prog X.w) X.A (f v u) (EP X pins σ (up Q)) X.xe s
def WC (X : Cx) (f : Value) (xs : List V) (H : Hp) (Q : VK) : Prop :=
  ∀ H1, Ex H H1 → ∀ pins s σ us, Inv X pins σ H1 s → Vals xs us → wpAny (model X.prog X.w) X.A (call f us) (EP X pins σ (up Q)) X.xe s

section
variable {X : Cx} {e a b c : Expr} {es : List Expr} {st : Stmt} {sts : List Stmt} {σ : St} {H H1 H' : Hp} {Q Q1 : VK} {QB QB1 : Bool → Hp → Prop} {QA QA1 : List V → Hp → Prop} {D : Ends} {x y z v : V} {pos : Pos} {f : Value → Value → Sem Value} {fn : Value} {xs : List V}

/-- the readings that HandS's rules take -/
def tWE (X : Cx) (e : Expr) : TE := fun σ H1 Q1 => ∃ H Q, Ex H H1 ∧ WE X e σ H Q ∧ ∀ v H2, up Q v H2 → Q1 v H2
def tWT (X : Cx) (e : Expr) : TT := fun σ H1 Q1 => ∃ H Q, Ex H H1 ∧ WT X e σ H Q ∧ ∀ v H2, upB Q v H2 → Q1 v H2
def tWW (X : Cx) (e : Expr) : TT := fun σ H1 Q1 => ∃ H Q, Ex H H1 ∧ WW X e σ H Q ∧ ∀ v H2, upB Q v H2 → Q1 v H2
def tWA (X : Cx) (es : List Expr) : TA := fun σ H1 Q1 => ∃ H Q, Ex H H1 ∧ WA X es σ H Q ∧ ∀ v H2, upA Q v H2 → Q1 v H2
structure EndsLe (D D1 : Ends) : Prop where
  nx : ∀ σ H, upS D.nx σ H → D1.nx σ H
  rt : ∀ v H, up D.rt v H → D1.rt v H
  bk : ∀ σ H, upS D.bk σ H → D1.bk σ H
  ct : ∀ σ H, upS D.ct σ H → D1.ct σ H
def tWS (X : Cx) (st : Stmt) : TS := fun D1 σ H1 => ∃ H D, Ex H H1 ∧ WS X st D σ H ∧ EndsLe D D1
def tWSs (X : Cx) (st : List Stmt) : TS := fun D1 σ H1 => ∃ H D, Ex H H1 ∧ WSs X st D σ H ∧ EndsLe D D1
def rWO (X : Cx) (f : Value → Value → Sem Value) : R2 := fun x y H1 Q1 => ∃ H Q, Ex H H1 ∧ WO X f x y H Q ∧ ∀ v H2, up Q v H2 → Q1 v H2
def rWC (X : Cx) (fn : Value) : List V → Hp → VK → Prop := fun xs H1 Q1 => ∃ H Q, Ex H H1 ∧ WC X fn xs H Q ∧ ∀ v H2, up Q v H2 → Q1 v H2

theorem pe_W : PE X e (tWE X e) := ⟨fun pins s σ H1 Q1 I ⟨H, Q, x, w, k⟩ => thn (w H1 x pins s I) fun u s' ⟨v, H2, I2, r, q⟩ => ⟨v, H2, I2, r, k v H2 q⟩⟩
theorem pt_W : PT X e (tWT X e) := ⟨fun pins s σ H1 Q1 I ⟨H, Q, x, w, k⟩ => thn (w H1 x pins s I) fun u s' ⟨H2, I2, q⟩ => ⟨H2, I2, k _ H2 q⟩⟩
theorem pw_W : PW X e (tWW X e) := ⟨fun wh pins s σ H1 Q1 I ⟨H, Q, x, w, k⟩ => thn (w H1 x wh pins s I) fun u s' ⟨H2, I2, q⟩ => ⟨H2, I2, k _ H2 q⟩⟩
theorem pa_W : PA X es (tWA X es) := ⟨fun pos pins s σ H1 Q1 I ⟨H, Q, x, w, k⟩ => thn (w H1 x pos pins s I) fun u s' ⟨v, H2, I2, r, q⟩ => ⟨v, H2, I2, r, k v H2 q⟩⟩
theorem SP.le {X : Cx} {pins : List (Addr × Obj)} {D D1 : Ends} (k : EndsLe D D1) {f : Flow} {s : Shared} (q : SP X pins (upD D) f s) : SP X pins D1 f s := by
  cases f with
  | next => obtain ⟨σ', H', I, q⟩ := q; exact ⟨σ', H', I, k.nx _ _ q⟩
  | brk => obtain ⟨σ', H', I, q⟩ := q; exact ⟨σ', H', I, k.bk _ _ q⟩
  | cont => obtain ⟨σ', H', I, q⟩ := q; exact ⟨σ', H', I, k.ct _ _ q⟩
  | ret u => obtain ⟨v, σ', H', I, r, q⟩ := q; exact ⟨v, σ', H', I, r, k.rt _ _ q⟩
theorem ps_W : PS X st (tWS X st) := ⟨fun pins s σ H1 D1 I ⟨H, D, x, w, k⟩ => thn (w H1 x pins s I) fun u s' q => SP.le k q⟩
theorem pss_W : PSs X sts (tWSs X sts) := ⟨fun pins s σ H1 D1 I ⟨H, D, x, w, k⟩ => thn (w H1 x pins s I) fun u s' q => SP.le k q⟩
theorem op_W : OpR X f (rWO X f) := fun pins s σ H1 x y v u Q1 I rx ry ⟨H, Q, e, w, k⟩ => thn (w H1 e pins s σ v u I rx ry) fun u s' ⟨v, H2, I2, r, q⟩ => ⟨v, H2, I2, r, k v H2 q⟩
theorem call_W : CallR X fn (rWC X fn) := fun pins s σ H1 xs us Q1 I r ⟨H, Q, e, w, k⟩ => thn (w H1 e pins s σ us I r) fun u s' ⟨v, H2, I2, r, q⟩ => ⟨v, H2, I2, r, k v H2 q⟩

theorem WE.of {t : TE} (h : PE X e t) (q : ∀ H1, Ex H H1 → t σ H1 (up Q)) : WE X e σ H Q := fun H1 x pins s I => h.run pins s σ H1 _ I (q H1 x)
theorem WT.of {t : TT} (h : PT X e t) (q : ∀ H1, Ex H H1 → t σ H1 (upB QB)) : WT X e σ H QB := fun H1 x pins s I => h.run pins s σ H1 _ I (q H1 x)
theorem WW.of {t : TT} (h : PW X e t) (q : ∀ H1, Ex H H1 → t σ H1 (upB QB)) : WW X e σ H QB := fun H1 x wh pins s I => h.run wh pins s σ H1 _ I (q H1 x)
theorem WA.of {t : TA} (h : PA X es t) (q : ∀ H1, Ex H H1 → t σ H1 (upA QA)) : WA X es σ H QA := fun H1 x pos pins s I => h.run pos pins s σ H1 _ I (q H1 x)
theorem WS.of {t : TS} (h : PS X st t) (q : ∀ H1, Ex H H1 → t (upD D) σ H1) : WS X st D σ H := fun H1 x pins s I => h.run pins s σ H1 _ I (q H1 x)
theorem WSs.of {t : TS} (h : PSs X sts t) (q : ∀ H1, Ex H H1 → t (upD D) σ H1) : WSs X sts D σ H := fun H1 x pins s I => h.run pins s σ H1 _ I (q H1 x)
theorem WO.of {r : R2} (h : OpR X f r) (q : ∀ H1, Ex H H1 → r x y H1 (up Q)) : WO X f x y H Q := fun H1 e pins s σ v u I rx ry => h pins s σ H1 x y v u _ I rx ry (q H1 e)
theorem WC.of {r : List V → Hp → VK → Prop} (h : CallR X fn r) (q : ∀ H1, Ex H H1 → r xs H1 (up Q)) : WC X fn xs H Q := fun H1 e pins s σ us I rs => h pins s σ H1 xs us _ I rs (q H1 e)

theorem WE.t (w : WE X e σ H Q) (x : Ex H H1) (k : ∀ v H2, up Q v H2 → Q1 v H2) : tWE X e σ H1 Q1 := ⟨H, Q, x, w, k⟩
theorem WT.t (w : WT X e σ H QB) (x : Ex H H1) (k : ∀ v H2, upB QB v H2 → QB1 v H2) : tWT X e σ H1 QB1 := ⟨H, QB, x, w, k⟩
theorem WW.t (w : WW X e σ H QB) (x : Ex H H1) (k : ∀ v H2, upB QB v H2 → QB1 v H2) : tWW X e σ H1 QB1 := ⟨H, QB, x, w, k⟩
theorem WA.t (w : WA X es σ H QA) (x : Ex H H1) (k : ∀ v H2, upA QA v H2 → QA1 v H2) : tWA X es σ H1 QA1 := ⟨H, QA, x, w, k⟩
theorem WO.t (w : WO X f x y H Q) (e : Ex H H1) (k : ∀ v H2, up Q v H2 → Q1 v H2) : rWO X f x y H1 Q1 := ⟨H, Q, e, w, k⟩
theorem WC.t (w : WC X fn xs H Q) (e : Ex H H1) (k : ∀ v H2, up Q v H2 → Q1 v H2) : rWC X fn xs H1 Q1 := ⟨H, Q, e, w, k⟩

theorem up.mono {Q Q' : VK} (k : ∀ v H, Q v H → Q' v H) {v : V} {H : Hp} : up Q v H → up Q' v H := fun ⟨H', x, q⟩ => ⟨H', x, k _ _ q⟩
theorem WE.mono (w : WE X e σ H Q) (k : ∀ v H, Q v H → Q1 v H) : WE X e σ H Q1 := fun H1 x pins s I => thn (w H1 x pins s I) fun u s' ⟨v, H2, I2, r, q⟩ => ⟨v, H2, I2, r, up.mono k q⟩
theorem WE.ex (w : WE X e σ H Q) (x : Ex H H') : WE X e σ H' Q := fun H1 x1 => w H1 (x.trans x1)
/-- what was made on the way is forgotten -/
theorem WE.forget (w : WE X e σ H fun v H1 => ∃ H', Ex H' H1 ∧ Q v H') : WE X e σ H Q := fun H1 x pins s I => thn (w H1 x pins s I) fun u s' ⟨v, H2, I2, r, H3, x3, H4, x4, q⟩ => ⟨v, H2, I2, r, H4, x4.trans x3, q⟩
theorem WSs.le {D1 : Ends} (w : WSs X sts D σ H) (k : EndsLe D (upD D1)) : WSs X sts D1 σ H := fun H1 x pins s I => thn (w H1 x pins s I) fun u s' q => SP.le k q
theorem EndsLe.i {D D1 : Ends} (nx : ∀ σ H, D.nx σ H → D1.nx σ H) (rt : ∀ σ H, D.rt σ H → D1.rt σ H) (bk : ∀ σ H, D.bk σ H → D1.bk σ H) (ct : ∀ σ H, D.ct σ H → D1.ct σ H) : EndsLe D (upD D1) :=
  ⟨fun _ _ ⟨H, x, q⟩ => ⟨H, x, nx _ _ q⟩, fun _ _ ⟨H, x, q⟩ => ⟨H, x, rt _ _ q⟩, fun _ _ ⟨H, x, q⟩ => ⟨H, x, bk _ _ q⟩, fun _ _ ⟨H, x, q⟩ => ⟨H, x, ct _ _ q⟩⟩
theorem EndsLe.rfl {D : Ends} : EndsLe D (upD D) := .i (fun _ _ q => q) (fun _ _ q => q) (fun _ _ q => q) fun _ _ q => q

/-! ## pure: a value, nothing changed -/
def EV (X : Cx) (e : Expr) (σ : St) (H : Hp) (v : V) : Prop := ∀ H1, Ex H H1 → ∀ Q : VK, Q v H1 → WE X e σ H1 Q
def ET (X : Cx) (e : Expr) (σ : St) (H : Hp) (v : Bool) : Prop := ∀ H1, Ex H H1 → ∀ Q : Bool → Hp → Prop, Q v H1 → WT X e σ H1 Q
def EW (X : Cx) (e : Expr) (σ : St) (H : Hp) (v : Bool) : Prop := ∀ H1, Ex H H1 → ∀ Q : Bool → Hp → Prop, Q v H1 → WW X e σ H1 Q
def EA (X : Cx) (es : List Expr) (σ : St) (H : Hp) (vs : List V) : Prop := ∀ H1, Ex H H1 → ∀ Q : List V → Hp → Prop, Q vs H1 → WA X es σ H1 Q
def EO (X : Cx) (f : Value → Value → Sem Value) (x y : V) (H : Hp) (z : V) : Prop := ∀ H1, Ex H H1 → ∀ Q : VK, Q z H1 → WO X f x y H1 Q
def EC (X : Cx) (fn : Value) (xs : List V) (H : Hp) (z : V) : Prop := ∀ H1, Ex H H1 → ∀ Q : VK, Q z H1 → WC X fn xs H1 Q
/-- a new object -/
def EN (X : Cx) (e : Expr) (σ : St) (H : Hp) (o : HO) : Prop := ∀ H1, Ex H H1 → ∀ Q : VK, (∀ p, H1 p = none → Q (.ref p) (upd H1 p o)) → WE X e σ H1 Q
def CN (X : Cx) (fn : Value) (xs : List V) (H : Hp) (o : HO) : Prop := ∀ H1, Ex H H1 → ∀ Q : VK, (∀ p, H1 p = none → Q (.ref p) (upd H1 p o)) → WC X fn xs H1 Q
theorem EV.we (h : EV X e σ H v) (q : Q v H) : WE X e σ H Q := h H (Ex.refl H) Q q
theorem ET.wt {v : Bool} (h : ET X e σ H v) (q : QB v H) : WT X e σ H QB := h H (Ex.refl H) QB q
theorem EW.ww {v : Bool} (h : EW X e σ H v) (q : QB v H) : WW X e σ H QB := h H (Ex.refl H) QB q
theorem EA.wa {vs : List V} (h : EA X es σ H vs) (q : QA vs H) : WA X es σ H QA := h H (Ex.refl H) QA q
theorem EO.wo (h : EO X f x y H z) (q : Q z H) : WO X f x y H Q := h H (Ex.refl H) Q q
theorem EC.wc (h : EC X fn xs H z) (q : Q z H) : WC X fn xs H Q := h H (Ex.refl H) Q q
theorem EN.we {o : HO} (h : EN X e σ H o) (q : ∀ p, H p = none → Q (.ref p) (upd H p o)) : WE X e σ H Q := h H (Ex.refl H) Q q
theorem CN.wc {o : HO} (h : CN X fn xs H o) (q : ∀ p, H p = none → Q (.ref p) (upd H p o)) : WC X fn xs H Q := h H (Ex.refl H) Q q
theorem EV.ex (h : EV X e σ H v) (x : Ex H H') : EV X e σ H' v := fun H1 x1 => h H1 (x.trans x1)
theorem ET.ex {v : Bool} (h : ET X e σ H v) (x : Ex H H') : ET X e σ H' v := fun H1 x1 => h H1 (x.trans x1)
theorem EN.ex {o : HO} (h : EN X e σ H o) (x : Ex H H') : EN X e σ H' o := fun H1 x1 => h H1 (x.trans x1)
theorem EA.ex {vs : List V} (h : EA X es σ H vs) (x : Ex H H') : EA X es σ H' vs := fun H1 x1 => h H1 (x.trans x1)
theorem EO.ex (h : EO X f x y H z) (x0 : Ex H H') : EO X f x y H' z := fun H1 x1 => h H1 (x0.trans x1)
theorem EV.is {w : V} (h : EV X e σ H v) (q : v = w) : EV X e σ H w := q ▸ h
theorem ET.is {v w : Bool} (h : ET X e σ H v) (q : v = w) : ET X e σ H w := q ▸ h
theorem EO.is {w : V} (h : EO X f x y H v) (q : v = w) : EO X f x y H w := q ▸ h
end
section
variable {X : Cx} {e a b c : Expr} {es rest : List Expr} {st : Stmt} {sts : List Stmt} {σ : St} {H H1 H' : Hp} {Q Q1 : VK} {QB QB1 : Bool → Hp → Prop} {QA QA1 : List V → Hp → Prop} {D : Ends} {x y z v w : V} {pos p pos' : Pos} {f : Value → Value → Sem Value} {fn : Value} {xs vs : List V} {k l : Bool}

/-! ## names, constants -/
theorem ev_var {i : Nat} {n : Str} (hN : X.N[i]? = some n) (hv : Vis X.env.scope n) (hs : σ[i]? = some (some v)) (hd : (n == ("__debug__" : Str)) = false := by decide) (hcd : (n == ("__classdict__" : Str)) = false := by decide) : EV X (.Name n pos) σ H v :=
  fun H1 x Q q => .of (pe_var hN hv hd hcd) fun H2 x2 => ⟨v, hs, H1, x2, q⟩
theorem ev_int {i : Int} {j} : EV X (.Constant (.int i) j pos) σ H (.int i) := fun H1 x Q q => .of pe_int fun H2 x2 => ⟨H1, x2, q⟩
theorem ev_bl {i : Bool} {j} : EV X (.Constant (.bool i) j pos) σ H (.bl i) := fun H1 x Q q => .of pe_bl fun H2 x2 => ⟨H1, x2, q⟩
theorem ev_non {j} : EV X (.Constant .none j pos) σ H .non := fun H1 x Q q => .of pe_non fun H2 x2 => ⟨H1, x2, q⟩
theorem ev_str {i : Str} {j} : EV X (.Constant (.str i) j pos) σ H (.str i) := fun H1 x Q q => .of pe_str fun H2 x2 => ⟨H1, x2, q⟩
theorem ev_glob {n : Str} {u : Value} (hm : X.mg n = some u) (r : RelV v u) (hg : Gl X n := by rfl) (hd : (n == ("__debug__" : Str)) = false := by decide) : EV X (.Name n pos) σ H v := fun H1 x Q q => .of (pe_glob hg hm r hd) fun H2 x2 => ⟨H1, x2, q⟩
theorem ev_bltn {n : Str} {u : Value} (hm : X.mg n = none) (hv : bootBuiltins n = some u) (r : RelV v u) (hg : Gl X n := by rfl) (hn : n ≠ "__name__" := by decide) (hd : (n == ("__debug__" : Str)) = false := by decide) : EV X (.Name n pos) σ H v := fun H1 x Q q => .of (pe_bltn hg hm hv r hn hd) fun H2 x2 => ⟨H1, x2, q⟩

/-! ## operators -/
theorem we_bin {op : Operator} (h : WE X a σ H fun x H1 => WE X b σ H1 fun y H2 => WO X (binaryOp op) x y H2 Q) : WE X (.BinOp a op b pos) σ H Q :=
  .of (pe_op op_W pe_W pe_W) fun H1 x => h.t x fun v H2 ⟨H3, x3, w⟩ => w.t x3 fun u H4 ⟨H5, x5, o⟩ => o.t x5 fun _ _ q => q
theorem ev_bin {op : Operator} (ha : EV X a σ H x) (hb : EV X b σ H y) (ho : EO X (binaryOp op) x y H z) : EV X (.BinOp a op b pos) σ H z := fun H1 e Q q =>
  we_bin ((ha.ex e).we ((hb.ex e).we ((ho.ex e).wo q)))
def UN (X : Cx) (f : Value → Sem Value) (x : V) (H : Hp) (z : V) : Prop := ∀ H1, Ex H H1 → ∀ pins s σ v, Inv X pins σ H1 s → RelV x v → ∀ Q : VK, Q z H1 → wpAny (model X.prog X.w) X.A (f v) (EP X pins σ Q) X.xe s
theorem we_un {op : UnaryOp} (h : WE X a σ H fun x H1 => ∃ z, UN X (unaryOp op) x H1 z ∧ Q z H1) : WE X (.UnaryOp op a pos) σ H Q :=
  .of (pe_un (r := fun x H1 Q1 => ∃ H z, Ex H H1 ∧ UN X (unaryOp op) x H z ∧ Q1 z H1) (fun pins s σ H1 x v Q I rx ⟨H, z, e, h, q⟩ => h H1 e pins s σ v I rx Q q) pe_W) fun H1 x => h.t x fun v H2 ⟨H3, x3, z, h3, q⟩ => ⟨H3, z, x3, h3, H3, x3, q⟩
theorem un_neg {i : Int} : UN X (unaryOp .USub) (.int i) H (.int (-i)) := fun H1 e pins s σ v I rx Q q => L2.un_neg pins s σ H1 _ v Q I rx ⟨i, rfl, q⟩
theorem ev_un {op : UnaryOp} (ha : EV X a σ H x) (ho : UN X (unaryOp op) x H z) : EV X (.UnaryOp op a pos) σ H z := fun H1 e Q q =>
  we_un ((ha.ex e).we ⟨z, fun H2 e2 => ho H2 (e.trans e2), q⟩)
theorem eo_of {r : R2} (h : OpR X f r) (q : ∀ H1, Ex H H1 → ∀ Q : VK, Q z H1 → r x y H1 Q) : EO X f x y H z := fun H1 e Q k => .of h fun H2 e2 => q H2 (e.trans e2) _ ⟨H1, e2, k⟩
section
variable {i j : Int}
theorem eo_add : EO X (binaryOp .Add) (.int i) (.int j) H (.int (i + j)) := eo_of op_add fun _ _ _ q => ⟨i, j, rfl, rfl, q⟩
theorem eo_sub : EO X (binaryOp .Sub) (.int i) (.int j) H (.int (i - j)) := eo_of op_sub fun _ _ _ q => ⟨i, j, rfl, rfl, q⟩
theorem eo_mul (h : CMul i j) : EO X (binaryOp .Mult) (.int i) (.int j) H (.int (i * j)) := eo_of op_mul fun _ _ _ q => ⟨i, j, rfl, rfl, h, q⟩
theorem eo_mulX (h : CMulX i j) : EO X (binaryOp .Mult) (.int i) (.int j) H (.int (i * j)) := eo_of op_mulX fun _ _ _ q => ⟨i, j, rfl, rfl, h, q⟩
theorem eo_mod (h : 0 < j) : EO X (binaryOp .Mod) (.int i) (.int j) H (.int (i % j)) := eo_of op_mod fun _ _ _ q => ⟨i, j, rfl, rfl, h, q⟩
theorem eo_fdiv (h : CDivW i j) : EO X (binaryOp .FloorDiv) (.int i) (.int j) H (.int (i / j)) := eo_of op_fdivW fun _ _ _ q => ⟨i, j, rfl, rfl, h, q⟩
theorem eo_pow (h : CPow i j) : EO X (binaryOp .Pow) (.int i) (.int j) H (.int (i ^ j.toNat)) := eo_of op_pow fun _ _ _ q => ⟨i, j, rfl, rfl, h, q⟩
theorem eo_shl (h : CShl i j) : EO X (binaryOp .LShift) (.int i) (.int j) H (.int (i * 2 ^ j.toNat)) := eo_of op_shlW fun _ _ _ q => ⟨i, j, rfl, rfl, h, q⟩
theorem eo_shr (h : 0 ≤ j) : EO X (binaryOp .RShift) (.int i) (.int j) H (.int (i / 2 ^ j.toNat)) := eo_of op_shr fun _ _ _ q => ⟨i, j, rfl, rfl, h, q⟩
theorem eo_and : EO X (binaryOp .BitAnd) (.int i) (.int j) H (.int (Builtin.bitAnd i j)) := eo_of op_and fun _ _ _ q => ⟨i, j, rfl, rfl, q⟩
theorem eo_lt : EO X (compareOp .Lt) (.int i) (.int j) H (.bl (decide (i < j))) := eo_of op_lt fun _ _ _ q => ⟨i, j, rfl, rfl, q⟩
theorem eo_le : EO X (compareOp .LtE) (.int i) (.int j) H (.bl (decide (i ≤ j))) := eo_of op_le fun _ _ _ q => ⟨i, j, rfl, rfl, q⟩
theorem eo_gt : EO X (compareOp .Gt) (.int i) (.int j) H (.bl (decide (j < i))) := eo_of op_gt fun _ _ _ q => ⟨i, j, rfl, rfl, q⟩
theorem eo_ge : EO X (compareOp .GtE) (.int i) (.int j) H (.bl (decide (j ≤ i))) := eo_of op_ge fun _ _ _ q => ⟨i, j, rfl, rfl, q⟩
theorem eo_eqI : EO X (compareOp .Eq) (.int i) (.int j) H (.bl (decide (i = j))) := (eo_of (z := .bl (decide (V.int i = V.int j))) op_eq fun _ _ _ q => ⟨rfl, q⟩).is (by congr 1; rw [dec_int, Bool.eq_iff_iff]; simp)
theorem eo_neI : EO X (compareOp .NotEq) (.int i) (.int j) H (.bl (!decide (i = j))) := (eo_of (z := .bl (!decide (V.int i = V.int j))) op_ne fun _ _ _ q => ⟨rfl, q⟩).is (by congr 2; rw [dec_int, Bool.eq_iff_iff]; simp)
end
theorem eo_eqS {i j : Str} : EO X (compareOp .Eq) (.str i) (.str j) H (.bl (decide (i = j))) := (eo_of (z := .bl (decide (V.str i = V.str j))) op_eq fun _ _ _ q => ⟨rfl, q⟩).is (by congr 1; rw [dec_str, Bool.eq_iff_iff]; simp)
theorem eo_neS {i j : Str} : EO X (compareOp .NotEq) (.str i) (.str j) H (.bl (!decide (i = j))) := (eo_of (z := .bl (!decide (V.str i = V.str j))) op_ne fun _ _ _ q => ⟨rfl, q⟩).is (by congr 2; rw [dec_str, Bool.eq_iff_iff]; simp)
theorem eo_eq (h : scal x y = true) : EO X (compareOp .Eq) x y H (.bl (decide (x = y))) := eo_of op_eq fun _ _ _ q => ⟨h, q⟩
theorem eo_ne (h : scal x y = true) : EO X (compareOp .NotEq) x y H (.bl (!decide (x = y))) := eo_of op_ne fun _ _ _ q => ⟨h, q⟩
theorem eo_isN : EO X (compareOp .Is) x .non H (.bl (decide (x = .non))) := eo_of op_isN fun _ _ _ q => ⟨rfl, q⟩
theorem eo_notN : EO X (compareOp .IsNot) x .non H (.bl (!decide (x = .non))) := eo_of op_notN fun _ _ _ q => ⟨rfl, q⟩
theorem eo_inL {q : Addr} (h : SqL X.K H q xs) (hx : flatV x = true) (ha : xs.all flatV = true) : EO X (compareOp .In) x (.ref q) H (.bl (inV x xs)) := eo_of op_in_seq fun _ e _ k => ⟨q, xs, rfl, .inl (e.sqL h), hx, ha, k⟩
theorem eo_inT {q : Addr} (h : SqT X.K H q xs) (hx : flatV x = true) (ha : xs.all flatV = true) : EO X (compareOp .In) x (.ref q) H (.bl (inV x xs)) := eo_of op_in_seq fun _ e _ k => ⟨q, xs, rfl, .inr (e.sqT h), hx, ha, k⟩
theorem eo_ninL {q : Addr} (h : SqL X.K H q xs) (hx : flatV x = true) (ha : xs.all flatV = true) : EO X (compareOp .NotIn) x (.ref q) H (.bl (!inV x xs)) := eo_of op_notIn_seq fun _ e _ k => ⟨q, xs, rfl, .inl (e.sqL h), hx, ha, k⟩
theorem eo_ninT {q : Addr} (h : SqT X.K H q xs) (hx : flatV x = true) (ha : xs.all flatV = true) : EO X (compareOp .NotIn) x (.ref q) H (.bl (!inV x xs)) := eo_of op_notIn_seq fun _ e _ k => ⟨q, xs, rfl, .inr (e.sqT h), hx, ha, k⟩

/-! ## comparisons -/
theorem we_cmp {op : CmpOp} (h : WE X a σ H fun x H1 => WE X b σ H1 fun y H2 => WO X (compareOp op) x y H2 Q) (hm : behindInMarks op b = false := by first | exact nomark _ | with_unfolding_all rfl) : WE X (.Compare a [op] [b] pos) σ H Q :=
  .of (pe_cmpR op_W pe_W pe_W hm) fun H1 x => h.t x fun v H2 ⟨H3, x3, w⟩ => w.t x3 fun u H4 ⟨H5, x5, o⟩ => o.t x5 fun _ _ q => q
theorem ev_cmp {op : CmpOp} (ha : EV X a σ H x) (hb : EV X b σ H y) (ho : EO X (compareOp op) x y H z) (hm : behindInMarks op b = false := by first | exact nomark _ | with_unfolding_all rfl) : EV X (.Compare a [op] [b] pos) σ H z := fun H1 e Q q =>
  we_cmp ((ha.ex e).we ((hb.ex e).we ((ho.ex e).wo q))) hm
theorem wt_cmp {op : CmpOp} (h : WE X a σ H fun x H1 => WE X b σ H1 fun y H2 => WO X (compareOp op) x y H2 fun z H3 => ∃ k, z = .bl k ∧ QB k H3) (hm : behindInMarks op b = false := by first | exact nomark _ | with_unfolding_all rfl) : WT X (.Compare a [op] [b] pos) σ H QB :=
  .of (pt_cmpR op_W pe_W pe_W hm) fun H1 x => h.t x fun v H2 ⟨H3, x3, w⟩ => w.t x3 fun u H4 ⟨H5, x5, o⟩ => o.t x5 fun _ _ ⟨H6, x6, k, e, q⟩ => ⟨k, e, H6, x6, q⟩
theorem et_cmp {op : CmpOp} (ha : EV X a σ H x) (hb : EV X b σ H y) (ho : EO X (compareOp op) x y H (.bl k)) (hm : behindInMarks op b = false := by first | exact nomark _ | with_unfolding_all rfl) : ET X (.Compare a [op] [b] pos) σ H k := fun H1 e Q q =>
  wt_cmp ((ha.ex e).we ((hb.ex e).we ((ho.ex e).wo ⟨k, rfl, q⟩))) hm
/-- a op b op' c -/
theorem ev_chain {op op' : CmpOp} (ha : EV X a σ H x) (hb : EV X b σ H y) (ho : EO X (compareOp op) x y H (.bl k)) (hc : EV X c σ H z) (ho' : EO X (compareOp op') y z H (.bl l)) (hm : lastMarks [op, op'] [b, c] = false := by with_unfolding_all rfl) : EV X (.Compare a [op, op'] [b, c] pos) σ H (.bl (k && l)) := fun H1 e Q q =>
  .of (pe_chain op_W op_W pe_W pe_W pe_W hm) fun H2 e2 => ((ha.ex e).we (Q := fun v H => v = x ∧ H = H1) ⟨rfl, rfl⟩).t e2 fun v H3 ⟨H3', x3, ev, eH⟩ => by
    subst ev; subst eH
    refine ((hb.ex e).we (Q := fun v H => v = y ∧ H = H3') ⟨rfl, rfl⟩).t x3 fun u H4 ⟨H4', x4, eu, eH⟩ => ?_
    subst eu; subst eH
    refine ((ho.ex e).wo (Q := fun v H => v = .bl k ∧ H = H4') ⟨rfl, rfl⟩).t x4 fun r H5 ⟨H5', x5, er, eH⟩ => ?_
    subst er; subst eH
    refine ⟨k, rfl, ?_⟩
    cases k with
    | false => exact iteF ⟨_, x5, q⟩
    | true =>
      refine iteT (((hc.ex e).we (Q := fun v H => v = z ∧ H = H5') ⟨rfl, rfl⟩).t x5 fun s H6 ⟨H6', x6, es, eH⟩ => ?_)
      subst es; subst eH
      exact ((ho'.ex e).wo q).t x6 fun _ _ q => q
theorem et_chain {op op' : CmpOp} (ha : EV X a σ H x) (hb : EV X b σ H y) (ho : EO X (compareOp op) x y H (.bl k)) (hc : EV X c σ H z) (ho' : EO X (compareOp op') y z H (.bl l)) (hm : lastMarks [op, op'] [b, c] = false := by with_unfolding_all rfl) : ET X (.Compare a [op, op'] [b, c] pos) σ H (k && l) := fun H1 e Q q =>
  .of (pt_chain op_W op_W pe_W pe_W pe_W hm) fun H2 e2 => ((ha.ex e).we (Q := fun v H => v = x ∧ H = H1) ⟨rfl, rfl⟩).t e2 fun v H3 ⟨H3', x3, ev, eH⟩ => by
    subst ev; subst eH
    refine ((hb.ex e).we (Q := fun v H => v = y ∧ H = H3') ⟨rfl, rfl⟩).t x3 fun u H4 ⟨H4', x4, eu, eH⟩ => ?_
    subst eu; subst eH
    refine ((ho.ex e).wo (Q := fun v H => v = .bl k ∧ H = H4') ⟨rfl, rfl⟩).t x4 fun r H5 ⟨H5', x5, er, eH⟩ => ?_
    subst er; subst eH
    refine ⟨k, rfl, ?_⟩
    cases k with
    | false => exact iteF ⟨false, rfl, _, x5, q⟩
    | true =>
      refine iteT (((hc.ex e).we (Q := fun v H => v = z ∧ H = H5') ⟨rfl, rfl⟩).t x5 fun s H6 ⟨H6', x6, es, eH⟩ => ?_)
      subst es; subst eH
      exact ((ho'.ex e).wo (Q := fun v H => v = .bl l ∧ Q (true && l) H) ⟨rfl, q⟩).t x6 fun _ _ ⟨H7, x7, ez, q⟩ => ⟨l, ez, H7, x7, q⟩

/-! ## and, or, not, tests -/
theorem wt_val (h : WE X e σ H fun x H1 => ∃ k, x = .bl k ∧ QB k H1) (he : ∀ whole, isTrue e X.env whole = (do let v ← whole; standAt e.pos; holding [v] (truthy v)) := by intro _; rfl) : WT X e σ H QB :=
  .of (pt_val pe_W he) fun H1 x => h.t x fun v H2 ⟨H3, x3, k, e, q⟩ => ⟨k, e, H3, x3, q⟩
theorem et_val (h : EV X e σ H (.bl k)) (he : ∀ whole, isTrue e X.env whole = (do let v ← whole; standAt e.pos; holding [v] (truthy v)) := by intro _; rfl) : ET X e σ H k := fun H1 x Q q => wt_val ((h.ex x).we ⟨k, rfl, q⟩) he
/-- a value's truth, known from below -/
def TruE (K : PySem.W.Frag) (x : V) (H : Hp) (k : Bool) : Prop := ∀ H1, Ex H H1 → TruV K x H1 k
theorem et_truth (h : EV X e σ H x) (ht : TruE X.K x H k) (he : ∀ whole, isTrue e X.env whole = (do let v ← whole; standAt e.pos; holding [v] (truthy v)) := by intro _; rfl) : ET X e σ H k := fun H1 x Q q =>
  .of (pt_truth pe_W he) fun H2 x2 => ((h.ex x).we (Q := fun v H => v = _ ∧ H = H1) ⟨rfl, rfl⟩).t x2 fun v H3 ⟨H3', x3, ev, eH⟩ => by
    subst ev; subst eH
    exact ⟨k, ht _ (x.trans x3), _, x3, q⟩
theorem ww_and1 (h : WT X a σ H QB) : WW X (.BoolOp .And [a] pos) σ H QB := .of (pw_and1 pt_W) fun H1 x => h.t x fun _ _ q => q
theorem ww_or1 (h : WT X a σ H QB) : WW X (.BoolOp .Or [a] pos) σ H QB := .of (pw_or1 pt_W) fun H1 x => h.t x fun _ _ q => q
theorem ww_and (h : WT X a σ H fun k H1 => if k = true then WW X (.BoolOp .And (b :: rest) pos) σ H1 QB else QB false H1) : WW X (.BoolOp .And (a :: b :: rest) pos) σ H QB :=
  .of (pw_and pt_W pw_W) fun H1 x => h.t x fun k H2 ⟨H3, x3, q⟩ => by
    cases k with
    | true => exact iteT (WW.t (by simpa using q) x3 fun _ _ q => q)
    | false => exact iteF ⟨H3, x3, by simpa using q⟩
theorem ww_or (h : WT X a σ H fun k H1 => if k = true then QB true H1 else WW X (.BoolOp .Or (b :: rest) pos) σ H1 QB) : WW X (.BoolOp .Or (a :: b :: rest) pos) σ H QB :=
  .of (pw_or pt_W pw_W) fun H1 x => h.t x fun k H2 ⟨H3, x3, q⟩ => by
    cases k with
    | true => exact iteT ⟨H3, x3, by simpa using q⟩
    | false => exact iteF (WW.t (by simpa using q) x3 fun _ _ q => q)
theorem wt_ww (h : WW X e σ H QB) : WT X e σ H QB := fun H1 x pins s I => h H1 x _ pins s I
theorem et_ew (h : EW X e σ H k) : ET X e σ H k := fun H1 x Q q => wt_ww (h H1 x Q q)
theorem ew_and1 (h : ET X a σ H k) : EW X (.BoolOp .And [a] pos) σ H k := fun H1 x Q q => ww_and1 ((h.ex x).wt q)
theorem ew_or1 (h : ET X a σ H k) : EW X (.BoolOp .Or [a] pos) σ H k := fun H1 x Q q => ww_or1 ((h.ex x).wt q)
theorem ew_and (ha : ET X a σ H k) (hb : k = true → EW X (.BoolOp .And (b :: rest) pos) σ H l) : EW X (.BoolOp .And (a :: b :: rest) pos) σ H (k && l) := fun H1 x Q q => ww_and ((ha.ex x).wt (by
  cases k with
  | true => exact iteT ((hb rfl) H1 x Q q)
  | false => exact iteF q))
theorem ew_or (ha : ET X a σ H k) (hb : k = false → EW X (.BoolOp .Or (b :: rest) pos) σ H l) : EW X (.BoolOp .Or (a :: b :: rest) pos) σ H (k || l) := fun H1 x Q q => ww_or ((ha.ex x).wt (by
  cases k with
  | true => exact iteT q
  | false => exact iteF ((hb rfl) H1 x Q q)))
theorem et_not (h : ET X a σ H k) : ET X (.UnaryOp .Not a pos) σ H (!k) := fun H1 x Q q =>
  .of (pt_not pt_W) fun H2 x2 => ((h.ex x).wt (QB := fun v H => Q (!v) H) q).t x2 fun _ _ q => q
theorem wt_not (h : WT X a σ H fun k H1 => QB (!k) H1) : WT X (.UnaryOp .Not a pos) σ H QB := .of (pt_not pt_W) fun H2 x2 => h.t x2 fun _ _ q => q
/-- as values (bools) -/
theorem we_one {op} (h : WE X a σ H Q) : WE X (.BoolOp op [a] pos) σ H Q := .of (pe_one pe_W) fun H1 x => h.t x fun _ _ q => q
theorem we_andV (h : WE X a σ H fun x H1 => ∃ k, x = .bl k ∧ if k = true then WE X (.BoolOp .And (b :: rest) pos) σ H1 Q else Q (.bl false) H1) : WE X (.BoolOp .And (a :: b :: rest) pos) σ H Q :=
  .of (pe_and pe_W pe_W) fun H1 x => h.t x fun v H2 ⟨H3, x3, k, e, q⟩ => ⟨k, e, by
    cases k with
    | true => exact iteT (WE.t (by simpa using q) x3 fun _ _ q => q)
    | false => exact iteF ⟨H3, x3, by simpa using q⟩⟩
theorem we_orV (h : WE X a σ H fun x H1 => ∃ k, x = .bl k ∧ if k = true then Q (.bl true) H1 else WE X (.BoolOp .Or (b :: rest) pos) σ H1 Q) : WE X (.BoolOp .Or (a :: b :: rest) pos) σ H Q :=
  .of (pe_or pe_W pe_W) fun H1 x => h.t x fun v H2 ⟨H3, x3, k, e, q⟩ => ⟨k, e, by
    cases k with
    | true => exact iteT ⟨H3, x3, by simpa using q⟩
    | false => exact iteF (WE.t (by simpa using q) x3 fun _ _ q => q)⟩
theorem ev_one {op} (h : EV X a σ H v) : EV X (.BoolOp op [a] pos) σ H v := fun H1 x Q q => we_one ((h.ex x).we q)
theorem ev_andV (ha : EV X a σ H (.bl k)) (hb : k = true → EV X (.BoolOp .And (b :: rest) pos) σ H (.bl l)) : EV X (.BoolOp .And (a :: b :: rest) pos) σ H (.bl (k && l)) := fun H1 x Q q => we_andV ((ha.ex x).we ⟨k, rfl, by
  cases k with
  | true => exact iteT ((hb rfl) H1 x Q q)
  | false => exact iteF q⟩)
theorem ev_orV (ha : EV X a σ H (.bl k)) (hb : k = false → EV X (.BoolOp .Or (b :: rest) pos) σ H (.bl l)) : EV X (.BoolOp .Or (a :: b :: rest) pos) σ H (.bl (k || l)) := fun H1 x Q q => we_orV ((ha.ex x).we ⟨k, rfl, by
  cases k with
  | true => exact iteT q
  | false => exact iteF ((hb rfl) H1 x Q q)⟩)
theorem ev_notV (ha : EV X a σ H (.bl k)) : EV X (.UnaryOp .Not a pos) σ H (.bl (!k)) := fun H1 x Q q =>
  .of (pe_not pe_W) fun H2 x2 => ((ha.ex x).we (Q := fun v H => v = .bl k ∧ Q (.bl (!k)) H) ⟨rfl, q⟩).t x2 fun v H3 ⟨H4, x4, e, q⟩ => ⟨k, e, H4, x4, q⟩
theorem we_if (h : WT X c σ H fun k H1 => if k = true then WE X a σ H1 Q else WE X b σ H1 Q) : WE X (.IfExp c a b pos) σ H Q :=
  .of (pe_ifExp pt_W pe_W pe_W) fun H1 x => h.t x fun k H2 ⟨H3, x3, q⟩ => by
    cases k with
    | true => exact iteT (WE.t (by simpa using q) x3 fun _ _ q => q)
    | false => exact iteF (WE.t (by simpa using q) x3 fun _ _ q => q)
theorem ev_if (hc : ET X c σ H k) (ha : k = true → EV X a σ H v) (hb : k = false → EV X b σ H v) : EV X (.IfExp c a b pos) σ H v := fun H1 x Q q => we_if ((hc.ex x).wt (by
  cases k with
  | true => exact iteT ((ha rfl) H1 x Q q)
  | false => exact iteF ((hb rfl) H1 x Q q)))
theorem ev_if2 (hc : ET X c σ H k) (ha : k = true → EV X a σ H v) (hb : k = false → EV X b σ H w) : EV X (.IfExp c a b pos) σ H (if k = true then v else w) := ev_if hc (fun h => by subst h; exact ha rfl) (fun h => by subst h; exact hb rfl)

/-! ## lists of arguments, displays -/
theorem wa_nil (q : QA [] H) : WA X [] σ H QA := .of pa_nil fun H1 x => ⟨H, x, q⟩
theorem wa_cons (h : WE X e σ H fun x H1 => WA X es σ H1 fun xs H2 => QA (x :: xs) H2) (hs : starEach (e :: es) X.env = (false, eval e X.env) :: starEach es X.env := by rfl) : WA X (e :: es) σ H QA :=
  .of (pa_cons pe_W pa_W hs) fun H1 x => h.t x fun v H2 ⟨H3, x3, w⟩ => w.t x3 fun _ _ q => q
theorem ea_nil : EA X [] σ H [] := fun H1 x Q q => wa_nil q
theorem ea_cons (h : EV X e σ H v) (hr : EA X es σ H vs) (hs : starEach (e :: es) X.env = (false, eval e X.env) :: starEach es X.env := by rfl) : EA X (e :: es) σ H (v :: vs) := fun H1 x Q q => wa_cons ((h.ex x).we ((hr.ex x).wa q)) hs
theorem we_tup {x1} (h : WA X es σ H fun xs H1 => xs.length ≤ sizeLine ∧ ∀ p, H1 p = none → Q (.ref p) (upd H1 p (.tup xs))) : WE X (.Tuple es x1 pos) σ H Q :=
  .of (pe_tup pa_W) fun H1 x => h.t x fun xs H2 ⟨H3, x3, hz, k⟩ => ⟨hz, fun p hp => ⟨_, x3.set p _, k p (x3.free hp)⟩⟩
theorem we_lst (h : WA X es σ H fun xs H1 => xs.length ≤ sizeLine ∧ ∀ p, H1 p = none → Q (.ref p) (upd H1 p (.lst xs))) : WE X (.List es pos) σ H Q :=
  .of (pe_lst pa_W) fun H1 x => h.t x fun xs H2 ⟨H3, x3, hz, k⟩ => ⟨hz, fun p hp => ⟨_, x3.set p _, k p (x3.free hp)⟩⟩
theorem small {n : Nat} (h : n ≤ 100000) : n ≤ sizeLine := Nat.le_trans h (by decide)
theorem en_tup {x1} (h : EA X es σ H vs) (hz : vs.length ≤ 100000) : EN X (.Tuple es x1 pos) σ H (.tup vs) := fun H1 x Q q => we_tup ((h.ex x).wa ⟨small hz, q⟩)
theorem en_lst (h : EA X es σ H vs) (hz : vs.length ≤ 100000) : EN X (.List es pos) σ H (.lst vs) := fun H1 x Q q => we_lst ((h.ex x).wa ⟨small hz, q⟩)
theorem en_dict0 : EN X (.Dict [] [] pos) σ H (.dK []) := fun H1 x Q q => .of pe_dnewK fun H2 x2 p hp => ⟨_, x2.set p _, q p (x2.free hp)⟩
/-- a new object as an operand, dropped behind -/
theorem ev_binN {op : Operator} {o : HO} (ha : EV X a σ H x) (hb : EN X b σ H o) (ho : ∀ p H1, Ex H H1 → H1 p = some o → EO X (binaryOp op) x (.ref p) H1 z) : EV X (.BinOp a op b pos) σ H z := fun H1 e Q q =>
  (we_bin ((ha.ex e).we ((hb.ex e).we fun p hp => (ho p _ (e.new hp) upd_same).wo ⟨H1, Ex.put hp, q⟩))).forget
theorem ev_cmpN {op : CmpOp} {o : HO} (ha : EV X a σ H x) (hb : EN X b σ H o) (ho : ∀ p H1, Ex H H1 → H1 p = some o → EO X (compareOp op) x (.ref p) H1 z) (hm : behindInMarks op b = false := by first | exact nomark _ | with_unfolding_all rfl) : EV X (.Compare a [op] [b] pos) σ H z := fun H1 e Q q =>
  (we_cmp ((ha.ex e).we ((hb.ex e).we fun p hp => (ho p _ (e.new hp) upd_same).wo ⟨H1, Ex.put hp, q⟩)) hm).forget

/-! ## subscripts -/
theorem we_ix {r : R2} (hr : IxR X r) (h : WE X a σ H fun x H1 => WE X b σ H1 fun y H2 => ∀ H3, Ex H2 H3 → r x y H3 (up Q)) (hs : PlainIx b := by intro _ _; rfl) : WE X (.Subscript a b pos) σ H Q :=
  .of (pe_ix hr pe_W pe_W hs) fun H1 x => h.t x fun v H2 ⟨H3, x3, w⟩ => w.t x3 fun u H4 ⟨H5, x5, o⟩ => o H4 x5
theorem ev_ixL {p : Addr} {i : Int} (ha : EV X a σ H (.ref p)) (hb : EV X b σ H (.int i)) (h : SqL X.K H p xs) (hi : atI xs i = some v) (hs : PlainIx b := by intro _ _; rfl) : EV X (.Subscript a b pos) σ H v := fun H1 e Q q =>
  we_ix ix_list ((ha.ex e).we ((hb.ex e).we fun H3 e3 => ⟨p, xs, i, v, rfl, rfl, (e.trans e3).sqL h, hi, H1, e3, q⟩)) hs
theorem ev_ixT {p : Addr} {i : Int} (ha : EV X a σ H (.ref p)) (hb : EV X b σ H (.int i)) (h : SqT X.K H p xs) (hi : atI xs i = some v) (hs : PlainIx b := by intro _ _; rfl) : EV X (.Subscript a b pos) σ H v := fun H1 e Q q =>
  we_ix ix_tup ((ha.ex e).we ((hb.ex e).we fun H3 e3 => ⟨p, xs, i, v, rfl, rfl, (e.trans e3).sqT h, hi, H1, e3, q⟩)) hs
theorem ev_ixS {z : Str} {i : Int} {n : Nat} (ha : EV X a σ H (.str z)) (hb : EV X b σ H (.int i)) (hz : z.length ≤ sizeLine) (hi : atI z.cps.toList i = some n) (hs : PlainIx b := by intro _ _; rfl) : EV X (.Subscript a b pos) σ H (.str ⟨#[n]⟩) := fun H1 e Q q =>
  we_ix ix_str ((ha.ex e).we ((hb.ex e).we fun H3 e3 => ⟨z, i, n, rfl, rfl, hz, hi, H1, e3, q⟩)) hs
/-- an item of a display, dropped behind -/
theorem ev_ixN {i : Int} (ha : EN X a σ H (.lst xs)) (hb : EV X b σ H (.int i)) (hi : atI xs i = some v) (hs : PlainIx b := by intro _ _; rfl) : EV X (.Subscript a b pos) σ H v := fun H1 e Q q =>
  (we_ix (Q := fun v' H' => ∃ H'', Ex H'' H' ∧ Q v' H'') ix_list ((ha.ex e).we fun p hp => (hb.ex (e.new hp)).we fun H3 e3 => ⟨p, xs, i, v, rfl, rfl, .of (e3 p _ upd_same), hi, _, e3, H1, Ex.put hp, q⟩) hs).forget

/-! ## builtins called by name -/
theorem we_callB {id : String} {n : Str} (hm : X.mg n = none) (hv : bootBuiltins n = some (.builtin id)) (ha : WA X (e :: es) σ H fun vs H1 => WC X (.builtin id) vs H1 Q) (hg : Gl X n := by rfl) (hn : n ≠ "__name__" := by decide) (hdb : (n == ("__debug__" : Str)) = false := by decide)
    (he : starEach (e :: es) X.env = (false, eval e X.env) :: starEach es X.env := by rfl) (hpl : (backTo pos (starEach es X.env)).any (·.1) = false := by rfl) : WE X (.Call (.Name n p) (e :: es) [] pos) σ H Q :=
  .of (pe_callB call_W hg hm hv pa_W hn hdb he hpl) fun H1 x => ha.t x fun vs H2 ⟨H3, x3, w⟩ => w.t x3 fun _ _ q => q
theorem we_callTy {T : String} {n : Str} (hm : X.mg n = none) (hv : bootBuiltins n = some (.type T)) (ha : WA X (e :: es) σ H fun vs H1 => WC X (.type T) vs H1 Q) (hg : Gl X n := by rfl) (hn : n ≠ "__name__" := by decide) (hdb : (n == ("__debug__" : Str)) = false := by decide)
    (he : starEach (e :: es) X.env = (false, eval e X.env) :: starEach es X.env := by rfl) (hpl : (backTo pos (starEach es X.env)).any (·.1) = false := by rfl) : WE X (.Call (.Name n p) (e :: es) [] pos) σ H Q :=
  .of (pe_callTy call_W hg hm hv pa_W hn hdb he hpl) fun H1 x => ha.t x fun vs H2 ⟨H3, x3, w⟩ => w.t x3 fun _ _ q => q
theorem ev_callB {id : String} {n : Str} (hm : X.mg n = none) (hv : bootBuiltins n = some (.builtin id)) (ha : EA X (e :: es) σ H vs) (hc : EC X (.builtin id) vs H z) (hg : Gl X n := by rfl) (hn : n ≠ "__name__" := by decide) (hdb : (n == ("__debug__" : Str)) = false := by decide)
    (he : starEach (e :: es) X.env = (false, eval e X.env) :: starEach es X.env := by rfl) (hpl : (backTo pos (starEach es X.env)).any (·.1) = false := by rfl) : EV X (.Call (.Name n p) (e :: es) [] pos) σ H z := fun H1 x Q q =>
  we_callB hm hv ((ha.ex x).wa (hc H1 x Q q)) hg hn hdb he hpl
theorem ev_callTy {T : String} {n : Str} (hm : X.mg n = none) (hv : bootBuiltins n = some (.type T)) (ha : EA X (e :: es) σ H vs) (hc : EC X (.type T) vs H z) (hg : Gl X n := by rfl) (hn : n ≠ "__name__" := by decide) (hdb : (n == ("__debug__" : Str)) = false := by decide)
    (he : starEach (e :: es) X.env = (false, eval e X.env) :: starEach es X.env := by rfl) (hpl : (backTo pos (starEach es X.env)).any (·.1) = false := by rfl) : EV X (.Call (.Name n p) (e :: es) [] pos) σ H z := fun H1 x Q q =>
  we_callTy hm hv ((ha.ex x).wa (hc H1 x Q q)) hg hn hdb he hpl
theorem ec_of {r : List V → Hp → VK → Prop} (h : CallR X fn r) (q : ∀ H1, Ex H H1 → ∀ Q : VK, Q z H1 → r vs H1 Q) : EC X fn vs H z := fun H1 e Q k => .of h fun H2 e2 => q H2 (e.trans e2) _ ⟨H1, e2, k⟩
theorem cn_of {r : List V → Hp → VK → Prop} {o : HO} (h : CallR X fn r) (q : ∀ H1, Ex H H1 → ∀ Q : VK, (∀ p, H1 p = none → Q (.ref p) (upd H1 p o)) → r vs H1 Q) : CN X fn vs H o := fun H1 e Q k => .of h fun H2 e2 => q H2 (e.trans e2) _ fun p hp => ⟨_, e2.set p o, k p (e2.free hp)⟩
/-- a call as an argument: evaluated, a value -/
theorem ec_abs {i : Int} : EC X (.builtin "abs") [.int i] H (.int (if i < 0 then -i else i)) := ec_of call_abs fun _ _ _ q => ⟨i, rfl, q⟩
theorem ec_max {i j : Int} (hc : X.calm = true) : EC X (.builtin "max") [.int i, .int j] H (.int (if j > i then j else i)) := ec_of (call_max2 hc) fun _ _ _ q => ⟨i, j, rfl, q⟩
theorem ec_min {i j : Int} (hc : X.calm = true) : EC X (.builtin "min") [.int i, .int j] H (.int (if j < i then j else i)) := ec_of (call_min2 hc) fun _ _ _ q => ⟨i, j, rfl, q⟩
theorem ec_lenL {p : Addr} (h : SqL X.K H p xs) : EC X (.builtin "len") [.ref p] H (.int xs.length) := ec_of call_len_seq fun _ e _ q => ⟨p, xs, rfl, .inl (e.sqL h), q⟩
theorem ec_lenT {p : Addr} (h : SqT X.K H p xs) : EC X (.builtin "len") [.ref p] H (.int xs.length) := ec_of call_len_seq fun _ e _ q => ⟨p, xs, rfl, .inr (e.sqT h), q⟩
theorem ec_lenS {z : Str} (h : z.length ≤ sizeLine) : EC X (.builtin "len") [.str z] H (.int z.length) := ec_of call_len_str fun _ _ _ q => ⟨z, rfl, h, q⟩
theorem ec_lenD {p : Addr} {kvs : List (Key × V)} (h : H p = some (.dK kvs)) : EC X (.builtin "len") [.ref p] H (.int kvs.length) := ec_of call_lenD fun _ e _ q => ⟨p, kvs, rfl, e _ _ h, q⟩
theorem ec_sum {p : Addr} {ns : List Int} (h : SqL X.K H p (ns.map V.int)) (hc : X.calm = true) : EC X (.builtin "sum") [.ref p] H (.int ns.sum) := ec_of (cr_sum hc) fun _ e _ q => ⟨p, ns, rfl, e.sqL h, q⟩
theorem ec_all {p : Addr} {ns : List Bool} (h : SqL X.K H p (ns.map V.bl)) (hc : X.calm = true) : EC X (.builtin "all") [.ref p] H (.bl (ns.all id)) := ec_of (cr_all hc) fun _ e _ q => ⟨p, ns, rfl, e.sqL h, q⟩
theorem ec_any {p : Addr} {ns : List Bool} (h : SqL X.K H p (ns.map V.bl)) (hc : X.calm = true) : EC X (.builtin "any") [.ref p] H (.bl (ns.any id)) := ec_of (cr_any hc) fun _ e _ q => ⟨p, ns, rfl, e.sqL h, q⟩
theorem cn_divmod {i j : Int} (h : CDivP i j) : CN X (.builtin "divmod") [.int i, .int j] H (.tup [.int (i / j), .int (i % j)]) := cn_of call_divmodW fun _ _ _ q => ⟨i, j, rfl, h, q⟩
theorem cn_listL {p : Addr} (h : SqL X.K H p xs) : CN X (.type "list") [.ref p] H (.lst xs) := cn_of call_list_of fun _ e _ q => ⟨p, xs, rfl, .inl (e.sqL h), q⟩
theorem cn_listT {p : Addr} (h : SqT X.K H p xs) : CN X (.type "list") [.ref p] H (.lst xs) := cn_of call_list_of fun _ e _ q => ⟨p, xs, rfl, .inr (e.sqT h), q⟩
theorem cn_tupleL {p : Addr} (h : SqL X.K H p xs) : CN X (.type "tuple") [.ref p] H (.tup xs) := cn_of call_tuple_of fun _ e _ q => ⟨p, xs, rfl, .inl ⟨e.sqL h, q⟩⟩
theorem ec_tupleT {p : Addr} (h : SqT X.K H p xs) : EC X (.type "tuple") [.ref p] H (.ref p) := ec_of call_tuple_of fun _ e _ q => ⟨p, xs, rfl, .inr ⟨e.sqT h, q⟩⟩
theorem en_callB {id : String} {n : Str} {o : HO} (hm : X.mg n = none) (hv : bootBuiltins n = some (.builtin id)) (ha : EA X (e :: es) σ H vs) (hc : CN X (.builtin id) vs H o) (hg : Gl X n := by rfl) (hn : n ≠ "__name__" := by decide) (hdb : (n == ("__debug__" : Str)) = false := by decide)
    (he : starEach (e :: es) X.env = (false, eval e X.env) :: starEach es X.env := by rfl) (hpl : (backTo pos (starEach es X.env)).any (·.1) = false := by rfl) : EN X (.Call (.Name n p) (e :: es) [] pos) σ H o := fun H1 x Q q =>
  we_callB hm hv ((ha.ex x).wa (hc H1 x Q q)) hg hn hdb he hpl
theorem en_callTy {id : String} {n : Str} {o : HO} (hm : X.mg n = none) (hv : bootBuiltins n = some (.type id)) (ha : EA X (e :: es) σ H vs) (hc : CN X (.type id) vs H o) (hg : Gl X n := by rfl) (hn : n ≠ "__name__" := by decide) (hdb : (n == ("__debug__" : Str)) = false := by decide)
    (he : starEach (e :: es) X.env = (false, eval e X.env) :: starEach es X.env := by rfl) (hpl : (backTo pos (starEach es X.env)).any (·.1) = false := by rfl) : EN X (.Call (.Name n p) (e :: es) [] pos) σ H o := fun H1 x Q q =>
  we_callTy hm hv ((ha.ex x).wa (hc H1 x Q q)) hg hn hdb he hpl
/-- n.bit_length() -/
theorem ev_bits {i : Int} {apos : Pos} (ho : EV X a σ H (.int i)) (hbase : attributeBase a "bit_length" X.env (eval a X.env) = eval a X.env := by rfl) (hline : (apos.endLine == pos.line) = true := by rfl) : EV X (.Call (.Attribute a "bit_length" apos) [] [] pos) σ H (.int (Builtin.Int.intBits i : Nat)) := fun H1 x Q q =>
  .of (pe_bits pe_W hbase hline) fun H2 x2 => ((ho.ex x).we (Q := fun v H => v = .int i ∧ Q (.int (Builtin.Int.intBits i : Nat)) H) ⟨rfl, q⟩).t x2 fun v H3 ⟨H4, x4, e, q⟩ => ⟨i, e, H4, x4, q⟩
end
/-- what the code around wishes of an exception; it grows with the heap -/
structure Tk (X : Cx) (W : WX) : Prop where
  tk : Takes X W
  up : ∀ c d σ H H', W c d σ H → Ex H H' → W c d σ H'
  own : PassesOwn (model X.prog X.w) X.A X.env X.xe
section
variable {X : Cx} {W : WX} {e a b c tg iter : Expr} {es rest tgs : List Expr} {st : Stmt} {sts body : List Stmt} {σ : St} {H H1 H' : Hp} {Q Q1 : VK} {QB QB1 : Bool → Hp → Prop} {QA QA1 : List V → Hp → Prop} {D : Ends} {x y z v w : V} {pos p pos' : Pos} {f : Value → Value → Sem Value} {fn : Value} {xs vs : List V} {k l : Bool} {R R1 : St → Hp → Prop}

/-! ## blocks, small statements -/
theorem wss_nil (q : D.nx σ H) : WSs X [] D σ H := .of pss_nil fun H1 x => ⟨H, x, q⟩
theorem wss_cons (h : WS X st { D with nx := fun σ' H' => WSs X sts D σ' H' } σ H) : WSs X (st :: sts) D σ H :=
  .of (pss_cons ps_W pss_W) fun H1 x => ⟨H, _, x, h, ⟨fun σ' H2 ⟨H3, x3, w⟩ => ⟨H3, D, x3, w, EndsLe.rfl⟩, fun _ _ q => q, fun _ _ q => q, fun _ _ q => q⟩⟩
theorem wss_one (h : WS X st D σ H) : WSs X [st] D σ H := .of (pss_one ps_W) fun H1 x => ⟨H, D, x, h, EndsLe.rfl⟩
theorem ws_pass (q : D.nx σ H) : WS X (.Pass pos) D σ H := .of ps_pass fun H1 x => ⟨H, x, q⟩
theorem ws_break (q : D.bk σ H) : WS X (.Break pos) D σ H := .of ps_break fun H1 x => ⟨H, x, q⟩
theorem ws_continue (q : D.ct σ H) : WS X (.Continue pos) D σ H := .of ps_continue fun H1 x => ⟨H, x, q⟩
theorem ws_doc {t j} (q : D.nx σ H) : WS X (.Expr (.Constant (.str t) j pos) pos') D σ H := .of ps_doc fun H1 x => ⟨H, x, q⟩
theorem ws_expr (h : WE X e σ H fun _ H1 => D.nx σ H1) (hs : swapsWith e none pos.line X.env = pure false := by rfl) : WS X (.Expr e pos) D σ H :=
  .of (ps_expr pe_W hs) fun H1 x => h.t x fun _ _ q => q
theorem ws_ret (h : WE X e σ H D.rt) : WS X (.Return (some e) pos) D σ H := .of (ps_ret pe_W) fun H1 x => h.t x fun _ _ q => q
theorem ws_retN (q : D.rt .non H) : WS X (.Return none pos) D σ H := .of ps_retN fun H1 x => ⟨H, x, q⟩
theorem ws_if (h : WT X c σ H fun k H1 => if k = true then WSs X sts D σ H1 else WSs X body D σ H1) : WS X (.If c sts body pos) D σ H :=
  .of (ps_if pt_W pss_W pss_W) fun H1 x => h.t x fun k H2 ⟨H3, x3, q⟩ => by
    cases k with
    | true => exact iteT ⟨H3, D, x3, by simpa using q, EndsLe.rfl⟩
    | false => exact iteF ⟨H3, D, x3, by simpa using q, EndsLe.rfl⟩
theorem ws_ifE (h : ET X c σ H k) (h1 : k = true → WSs X sts D σ H) (h2 : k = false → WSs X body D σ H) : WS X (.If c sts body pos) D σ H := ws_if (h.wt (by
  cases k with
  | true => exact iteT (h1 rfl)
  | false => exact iteF (h2 rfl)))
theorem WS.le {D1 : Ends} (w : WS X st D σ H) (k : EndsLe D (upD D1)) : WS X st D1 σ H := fun H1 x pins s I => thn (w H1 x pins s I) fun u s' q => SP.le k q
/-- the ways of an if meet at M -/
theorem wss_cut (M : St → Hp → Prop) (h : WS X st { D with nx := M } σ H) (k : ∀ σ' H', M σ' H' → WSs X sts D σ' H') : WSs X (st :: sts) D σ H :=
  wss_cons (WS.le h (.i (fun _ _ m => k _ _ m) (fun _ _ q => q) (fun _ _ q => q) fun _ _ q => q))

/-! ## targets -/
def WG (X : Cx) (tg : Expr) (v : V) (σ : St) (H : Hp) (R : St → Hp → Prop) : Prop :=
  ∀ H1, Ex H H1 → ∀ pins s u, Inv X pins σ H1 s → RelV v u → wpAny (model X.prog X.w) X.A (assign tg X.env u) (fun _ s' => ∃ σ' H', Inv X pins σ' H' s' ∧ upS R σ' H') X.xe s
def tWG (X : Cx) (tg : Expr) : TG := fun v σ H1 R1 => ∃ H R, Ex H H1 ∧ WG X tg v σ H R ∧ ∀ σ' H2, upS R σ' H2 → R1 σ' H2
theorem pg_W : PG X tg (tWG X tg) := ⟨fun pins s σ H1 v u R1 I r ⟨H, R, x, w, k⟩ => thn (w H1 x pins s u I r) fun _ s' ⟨σ', H2, I2, q⟩ => ⟨σ', H2, I2, k _ _ q⟩⟩
theorem WG.of {t : TG} (h : PG X tg t) (q : ∀ H1, Ex H H1 → t v σ H1 (upS R)) : WG X tg v σ H R := fun H1 x pins s u I r => h.run pins s σ H1 v u _ I r (q H1 x)
theorem WG.t (w : WG X tg v σ H R) (x : Ex H H1) (k : ∀ σ' H2, upS R σ' H2 → R1 σ' H2) : tWG X tg v σ H1 R1 := ⟨H, R, x, w, k⟩
theorem wg_name {i : Nat} {n : Str} (hN : X.N.Nodup) (hi : X.N[i]? = some n) (q : R (σ.set i (some v)) H) (hx : Loc X.env.scope n := by first | exact .inl rfl | exact .inr rfl) (hf : X.fn n = true ∨ X.env.scope.names.lookup n = some .local := by first | exact .inl rfl | exact .inr rfl | assumption) : WG X (.Name n pos) v σ H R :=
  .of (pg_name hN hi hx hf) fun H1 x => ⟨H, x, q⟩
/-- several, from the left -/
def WGs (X : Cx) (ts : List Expr) (vs : List V) (σ : St) (H : Hp) (R : St → Hp → Prop) : Prop :=
  ∀ H1, Ex H H1 → ∀ pins s us, Inv X pins σ H1 s → Vals vs us → wpAny (model X.prog X.w) X.A (assignInOrder ((assignEach ts X.env).map (·.2)) us) (fun _ s' => ∃ σ' H', Inv X pins σ' H' s' ∧ upS R σ' H') X.xe s
def tWGs (X : Cx) (ts : List Expr) : TGs := fun vs σ H1 R1 => ∃ H R, Ex H H1 ∧ WGs X ts vs σ H R ∧ ∀ σ' H2, upS R σ' H2 → R1 σ' H2
theorem pgs_W : PGs X tgs (tWGs X tgs) := ⟨fun pins s σ H1 vs us R1 I r ⟨H, R, x, w, k⟩ => thn (w H1 x pins s us I r) fun _ s' ⟨σ', H2, I2, q⟩ => ⟨σ', H2, I2, k _ _ q⟩⟩
theorem WGs.of {t : TGs} (h : PGs X tgs t) (q : ∀ H1, Ex H H1 → t vs σ H1 (upS R)) : WGs X tgs vs σ H R := fun H1 x pins s us I r => h.run pins s σ H1 vs us _ I r (q H1 x)
theorem wgs_nil (q : R σ H) : WGs X [] [] σ H R := .of pgs_nil fun H1 x => ⟨rfl, H, x, q⟩
theorem wgs_cons (h : WG X tg v σ H fun σ' H' => WGs X tgs vs σ' H' R) (hs : (assignEach (tg :: tgs) X.env).map (·.2) = assign tg X.env :: (assignEach tgs X.env).map (·.2) := by rfl) : WGs X (tg :: tgs) (v :: vs) σ H R :=
  .of (pgs_cons pg_W pgs_W hs) fun H1 x => ⟨v, vs, rfl, h.t x fun σ' H2 ⟨H3, x3, w⟩ => ⟨H3, R, x3, w, fun _ _ q => q⟩⟩
theorem wg_tup {t : Addr} {i : Nat} (hs : SqT X.K H t vs) (h : WGs X tgs vs σ H R) (hc : X.calm = true := by rfl) (hn : (assignEach tgs X.env).length = vs.length := by rfl) (hst : (assignEach tgs X.env).findIdx? (·.1) = none := by rfl) : WG X (.Tuple tgs i pos) (.ref t) σ H R :=
  .of (pg_tup (n := vs.length) hc pgs_W hn hst) fun H1 x => ⟨t, vs, rfl, x.sqT hs, rfl, H, R, x, h, fun _ _ q => q⟩
theorem wg_lst {t : Addr} {i : Nat} (hs : SqL X.K H t vs) (h : WGs X tgs vs σ H R) (hc : X.calm = true := by rfl) (hn : (assignEach tgs X.env).length = vs.length := by rfl) (hst : (assignEach tgs X.env).findIdx? (·.1) = none := by rfl) : WG X (.Tuple tgs i pos) (.ref t) σ H R :=
  .of (pg_lst (n := vs.length) hc pgs_W hn hst) fun H1 x => ⟨t, vs, rfl, x.sqL hs, rfl, H, R, x, h, fun _ _ q => q⟩
/-- o[i] = v of a list -/
theorem wg_ixL {q : Addr} {i : Int} {j : Nat} (ho : EV X a σ H (.ref q)) (hi : EV X b σ H (.int i)) (hl : H q = some (.lst xs)) (hj : ixN xs.length i = some j) (h : R σ (upd H q (.lst (xs.set j v))))
    (ha : ∀ v, assign (.Subscript a b pos) X.env v = (do
      let ov ← holding [v] (eval a X.env)
      let iv ← holding [v, ov] (eval b X.env)
      standAt pos
      holding [v, ov, iv] (setItem ov iv v)
      release [v, ov, iv] []) := by intro _; rfl) : WG X (.Subscript a b pos) v σ H R :=
  .of (pg_sub pe_W pe_W set_list ha) fun H1 x => (ho.we (Q := fun v H' => v = .ref q ∧ H' = H) ⟨rfl, rfl⟩).t x fun o H2 ⟨H2', x2, eo, eH⟩ => by
    subst eo; subst eH
    refine (hi.we (Q := fun v H'' => v = .int i ∧ H'' = H2') ⟨rfl, rfl⟩).t x2 fun o H3 ⟨H3', x3, eo, eH⟩ => ?_
    subst eo; subst eH
    exact ⟨q, xs, i, j, rfl, rfl, x3 _ _ hl, hj, _, x3.set q _, h⟩
/-- o[i] = v of a dict -/
theorem wg_ixD {q : Addr} {kx : Key} {kvs : List (Key × V)} (hu : X.A.units + 1 < cLine) (ho : EV X a σ H (.ref q)) (hi : EV X b σ H (kV kx)) (hl : H q = some (.dK kvs)) (hz : kvs.length < 100000) (h : R σ (upd H q (.dK (putK kvs kx v))))
    (ha : ∀ v, assign (.Subscript a b pos) X.env v = (do
      let ov ← holding [v] (eval a X.env)
      let iv ← holding [v, ov] (eval b X.env)
      standAt pos
      holding [v, ov, iv] (setItem ov iv v)
      release [v, ov, iv] []) := by intro _; rfl) : WG X (.Subscript a b pos) v σ H R :=
  .of (pg_sub pe_W pe_W (set_dict hu) ha) fun H1 x => (ho.we (Q := fun v H' => v = .ref q ∧ H' = H) ⟨rfl, rfl⟩).t x fun o H2 ⟨H2', x2, eo, eH⟩ => by
    subst eo; subst eH
    refine (hi.we (Q := fun v H'' => v = kV kx ∧ H'' = H2') ⟨rfl, rfl⟩).t x2 fun o H3 ⟨H3', x3, eo, eH⟩ => ?_
    subst eo; subst eH
    exact ⟨q, _, rfl, DPut.k (k := kx) (x3 _ _ hl) (Nat.lt_of_lt_of_le hz (by decide)), _, x3.set q _, h⟩

/-! ## assignments -/
theorem ws_set {i : Nat} {n : Str} (hN : X.N.Nodup) (hi : X.N[i]? = some n) (h : WE X e σ H fun x H1 => D.nx (σ.set i (some x)) H1) (hx : Loc X.env.scope n := by first | exact .inl rfl | exact .inr rfl) (hs : swapsWith e (some (.Name n pos')) pos.line X.env = pure false := by rfl)
    (hf : X.fn n = true ∨ X.env.scope.names.lookup n = some .local := by first | exact .inl rfl | exact .inr rfl | assumption) : WS X (.Assign [.Name n pos'] e pos) D σ H :=
  .of (ps_set hN hi hx pe_W hs hf) fun H1 x => h.t x fun _ _ q => q
theorem ws_asg (h : WE X e σ H fun x H1 => WG X tg x σ H1 D.nx) (hs : swapsWithSole [tg] e pos.line X.env = pure false := by rfl) (hw : swappedStores [tg] e X.env = pure none := by rfl)
    (h1 : (assignEach [tg] X.env).map (·.2) = [assign tg X.env] := by rfl) : WS X (.Assign [tg] e pos) D σ H :=
  .of (ps_asg pe_W pg_W hs hw h1) fun H1 x => h.t x fun v H2 ⟨H3, x3, w⟩ => w.t x3 fun _ _ q => q
def IP (X : Cx) (op : Operator) (x y : V) (H : Hp) (z : V) : Prop := EO X (inplaceOp op) x y H z
theorem ws_aug {i : Nat} {n : Str} {op : Operator} (hN : X.N.Nodup) (hi : X.N[i]? = some n) (hx : σ[i]? = some (some x)) (h : WE X e σ H fun y H1 => WO X (inplaceOp op) x y H1 fun z H2 => D.nx (σ.set i (some z)) H2) (hl : Loc X.env.scope n := by first | exact .inl rfl | exact .inr rfl)
    (hf : X.fn n = true ∨ X.env.scope.names.lookup n = some .local := by first | exact .inl rfl | exact .inr rfl | assumption) : WS X (.AugAssign (.Name n pos') op e pos) D σ H :=
  .of (ps_aug hN hi hl pe_W (fun pins s σ H x y v u Q I rx ry q => op_W pins s σ H x y v u Q I rx ry q) hf) fun H1 e1 => ⟨x, hx, h.t e1 fun y H2 ⟨H3, x3, w⟩ => w.t x3 fun _ _ q => q⟩
section
variable {i j : Int}
theorem ip_add : EO X (inplaceOp .Add) (.int i) (.int j) H (.int (i + j)) := eo_of iop_add fun _ _ _ q => ⟨i, j, rfl, rfl, q⟩
theorem ip_sub : EO X (inplaceOp .Sub) (.int i) (.int j) H (.int (i - j)) := eo_of iop_sub fun _ _ _ q => ⟨i, j, rfl, rfl, q⟩
theorem ip_mul (h : CMul i j) : EO X (inplaceOp .Mult) (.int i) (.int j) H (.int (i * j)) := eo_of iop_mul fun _ _ _ q => ⟨i, j, rfl, rfl, h, q⟩
theorem ip_shr (h : 0 ≤ j) : EO X (inplaceOp .RShift) (.int i) (.int j) H (.int (i / 2 ^ j.toNat)) := eo_of iop_shr fun _ _ _ q => ⟨i, j, rfl, rfl, h, q⟩
end

/-! ## loops -/
/-- while, by an invariant with its measure -/
theorem ws_while (tk : Tk X W) (Pv : Nat → St → Hp → Prop) (m : Nat) (h0 : Pv m σ H)
    (hs : ∀ m σ' H', Pv m σ' H' → WT X c σ' H' fun k H2 => if k = true then WSs X body { D with nx := fun σ3 H3 => ∃ m', m' < m ∧ Pv m' σ3 H3, ct := fun σ3 H3 => ∃ m', m' < m ∧ Pv m' σ3 H3, bk := D.nx } σ' H2 else D.nx σ' H2) : WS X (.While c body [] pos) D σ H :=
  .of (ps_while tk.own pt_W pss_W) fun H1 x => ⟨fun m => upS (Pv m), ⟨m, H, x, h0⟩, fun m σ' H2 ⟨H3, x3, p⟩ => (hs m σ' H3 p).t x3 fun k H4 ⟨H5, x5, q⟩ => by
    cases k with
    | true =>
      rw [if_pos rfl] at q
      exact iteT ⟨fun σ6 H6 => ∃ m', m' < m ∧ upS (Pv m') σ6 H6, fun _ _ n => n, H5, _, x5, q, ⟨fun _ _ ⟨H7, x7, m', l, p⟩ => ⟨m', l, H7, x7, p⟩, fun _ _ q => q, fun _ _ q => q, fun _ _ ⟨H7, x7, m', l, p⟩ => ⟨m', l, H7, x7, p⟩⟩⟩
    | false => exact iteF ⟨H5, x5, by simpa using q⟩⟩
theorem ws_whileE (tk : Tk X W) (Pv : Nat → St → Hp → Prop) (m : Nat) (h0 : Pv m σ H)
    (hs : ∀ m σ' H', Pv m σ' H' → ∃ k, ET X c σ' H' k ∧ (k = true → WSs X body { D with nx := fun σ3 H3 => ∃ m', m' < m ∧ Pv m' σ3 H3, ct := fun σ3 H3 => ∃ m', m' < m ∧ Pv m' σ3 H3, bk := D.nx } σ' H') ∧ (k = false → D.nx σ' H')) : WS X (.While c body [] pos) D σ H :=
  ws_while tk Pv m h0 fun m σ' H' p => by
    obtain ⟨k, h, h1, h2⟩ := hs m σ' H' p
    exact h.wt (by
      cases k with
      | true => exact iteT (h1 rfl)
      | false => exact iteF (h2 rfl))
/-- what is walked: the iterator's behaviour J -/
def WI (X : Cx) (tg iter : Expr) (σ : St) (H : Hp) (R : It → Hp → Prop) : Prop := ∃ wi, PI X tg iter wi ∧ ∀ H1, Ex H H1 → wi σ H1 fun J H2 => ∃ H', Ex H' H2 ∧ R J H'
/-- for .. in a list that the body leaves as it is -/
theorem ws_forL {q : Addr} (tk : Tk X W) (hl : EV X iter σ H (.ref q)) (hx : SqL X.K H q xs) (Pv : Nat → St → Hp → Prop) (h0 : Pv 0 σ H) (keep : ∀ i σ' H', i ≤ xs.length → Pv i σ' H' → SqL X.K H' q xs)
    (turn : ∀ i x σ' H', xs[i]? = some x → Pv i σ' H' → WG X tg x σ' H' fun σ2 H2 => WSs X body { D with nx := Pv (i + 1), ct := Pv (i + 1), bk := D.nx } σ2 H2)
    (done : ∀ σ' H', Pv xs.length σ' H' → D.nx σ' H') (hc : X.calm = true := by rfl) (hs : ∀ x, foldedSetIterable iter X.env x = pure x := by intro _; rfl) : WS X (.For tg iter body [] pos) D σ H :=
  .of (ps_for tk.own hc (pi_list pe_W) pg_W pss_W hs) fun H1 x => (hl.we (Q := fun v H' => v = .ref q ∧ H' = H) ⟨rfl, rfl⟩).t x fun o H2 ⟨H2', x2, eo, eH⟩ => by
    subst eo; subst eH
    refine ⟨q, rfl, ⟨xs, x2.sqL hx⟩, for_list (K := X.K) (a := q) (xs := xs) (fun i => upS (Pv i)) ⟨_, x2, h0⟩ (fun i σ' H3 hi ⟨H4, x4, p⟩ => x4.sqL (keep i σ' H4 hi p)) (fun i y σ' H3 hi ⟨H4, x4, p⟩ => ?_) fun σ' H3 ⟨H4, x4, p⟩ => ⟨H4, x4, done _ _ p⟩⟩
    exact (turn i y σ' H4 hi p).t x4 fun σ5 H5 ⟨H6, x6, w⟩ => ⟨H6, _, x6, w, ⟨fun _ _ q => q, fun _ _ q => q, fun _ _ q => q, fun _ _ q => q⟩⟩
theorem ws_forT {q : Addr} (tk : Tk X W) (hl : EV X iter σ H (.ref q)) (hx : SqT X.K H q xs) (Pv : Nat → St → Hp → Prop) (h0 : Pv 0 σ H) (keep : ∀ i σ' H', i ≤ xs.length → Pv i σ' H' → SqT X.K H' q xs)
    (turn : ∀ i x σ' H', xs[i]? = some x → Pv i σ' H' → WG X tg x σ' H' fun σ2 H2 => WSs X body { D with nx := Pv (i + 1), ct := Pv (i + 1), bk := D.nx } σ2 H2)
    (done : ∀ σ' H', Pv xs.length σ' H' → D.nx σ' H') (hc : X.calm = true := by rfl) (hs : ∀ x, foldedSetIterable iter X.env x = pure x := by intro _; rfl) : WS X (.For tg iter body [] pos) D σ H :=
  .of (ps_for tk.own hc (pi_tup pe_W) pg_W pss_W hs) fun H1 x => (hl.we (Q := fun v H' => v = .ref q ∧ H' = H) ⟨rfl, rfl⟩).t x fun o H2 ⟨H2', x2, eo, eH⟩ => by
    subst eo; subst eH
    refine ⟨q, rfl, ⟨xs, x2.sqT hx⟩, for_tup (K := X.K) (a := q) (xs := xs) (fun i => upS (Pv i)) ⟨_, x2, h0⟩ (fun i σ' H3 hi ⟨H4, x4, p⟩ => x4.sqT (keep i σ' H4 hi p)) (fun i y σ' H3 hi ⟨H4, x4, p⟩ => ?_) fun σ' H3 ⟨H4, x4, p⟩ => ⟨H4, x4, done _ _ p⟩⟩
    exact (turn i y σ' H4 hi p).t x4 fun σ5 H5 ⟨H6, x6, w⟩ => ⟨H6, _, x6, w, ⟨fun _ _ q => q, fun _ _ q => q, fun _ _ q => q, fun _ _ q => q⟩⟩
/-- for .. in range(n) -/
theorem ws_forR {n : Int} {p : Pos} (tk : Tk X W) (hm : X.mg "range" = none) (ha : EV X a σ H (.int n)) (hn : n ≤ 1000000) (hn0 : -1000000 ≤ n) (Pv : Nat → St → Hp → Prop) (h0 : Pv 0 σ H)
    (turn : ∀ (i : Nat) σ' H', (i : Int) < n → Pv i σ' H' → WG X tg (.int i) σ' H' fun σ2 H2 => WSs X body { D with nx := Pv (i + 1), ct := Pv (i + 1), bk := D.nx } σ2 H2)
    (done : ∀ σ' H', Pv n.toNat σ' H' → D.nx σ' H') (hc : X.calm = true := by rfl) (hg : Gl X "range" := by rfl) (hse : starEach [a] X.env = [(false, eval a X.env)] := by rfl) (hs : ∀ x, foldedSetIterable (.Call (.Name "range" p) [a] [] pos') X.env x = pure x := by intro _; rfl) :
    WS X (.For tg (.Call (.Name "range" p) [a] [] pos') body [] pos) D σ H :=
  .of (ps_for tk.own hc (pi_range1 hg hm (pa_cons pe_W pa_nil hse) hse) pg_W pss_W hs) fun H1 x => (ha.we (Q := fun v H' => v = .int n ∧ H' = H) ⟨rfl, rfl⟩).t x fun o H2 ⟨H2', x2, eo, eH⟩ => by
    subst eo; subst eH
    refine ⟨n, rfl, by omega, by omega, for_range (lo := 0) (n := n.toNat) (fun i => upS (Pv i)) ⟨_, x2, h0⟩ (fun i σ' H3 hi ⟨H4, x4, p⟩ => ?_) fun σ' H3 ⟨H4, x4, p⟩ => ⟨H4, x4, done _ _ p⟩⟩
    rw [Int.zero_add]
    exact (turn i σ' H4 (by omega) p).t x4 fun σ5 H5 ⟨H6, x6, w⟩ => ⟨H6, _, x6, w, ⟨fun _ _ q => q, fun _ _ q => q, fun _ _ q => q, fun _ _ q => q⟩⟩
end
/-! ## defs: a promise that is kept wherever no repr is at work -/
structure FnG (P : Program) (w : World) (K : PySem.W.Frag) (mg : Str → Option Value) (base : Heap) (k : Nat) (f : Addr) (fd : FuncData) (ps : List Str) (sp : Sp) : Prop where
  len : ∀ vs H Q E, sp vs H Q E → vs.length = ps.length
  run : ∀ (A : Around) (outer : List Env) (s : Shared) (H1 : Hp) (args : Args) (us : List Value) (vs : List V) (H : Hp) (Q : VK) (E : XK), Room k A → A.guards = some [] → Env0 P w K mg base A outer s H1 → BindsTo s fd args (ps.zip us) → Vals vs us → Ex H H1 →
    sp vs H Q E → codeAny (model P w) A (.call (.ref f) args) (CR (L2.CX P w) outer P w H1 s (up Q) (upE E)) s
/-- the code around: room, no repr, its wish -/
structure Cn (X : Cx) (W : WX) (k : Nat) : Prop where
  room : Room k X.A
  gd : X.A.guards = some []
  tk : Takes X W
  wu : ∀ c d σ H H', W c d σ H → Ex H H' → W c d σ H'
theorem Cn.mono {X : Cx} {W : WX} {j k : Nat} (c : Cn X W k) (h : j ≤ k) : Cn X W j := ⟨c.room.mono h, c.gd, c.tk, c.wu⟩
abbrev Own (X : Cx) : Prop := PassesOwn (model X.prog X.w) X.A X.env X.xe
theorem Cn.t {X : Cx} {W : WX} {k : Nat} (c : Cn X W k) (o : Own X) : Tk X W := ⟨c.tk, c.wu, o⟩

/-- a def's body as it runs -/
abbrev fx (P : Program) (w : World) (K : PySem.W.Frag) (mg : Str → Option Value) (base : Heap) (N : List Str) (qual : Str) (st : Stmt) (f : Addr) (cd : Value) (A : Around) (outer : List Env) (s : Shared) (H : Hp) (E : XK) : Cx :=
  cxOf (L2.CX P w) P w K mg base N qual (defScope st) f cd A outer s H E
section
variable {P : Program} {w : World} {K : PySem.W.Frag} {mg : Str → Option Value} {base : Heap}
/-- THE RULE of a def: its body -/
theorem fng_of {x qual : Str} {st : Stmt} {f : Addr} {fd : FuncData} {N ps : List Str} {k : Nat} {sp : Sp} (F : Fun K x qual st f fd) (S : FnScope N ps (defScope st)) (len : ∀ vs H Q E, sp vs H Q E → vs.length = ps.length)
    (body : ∀ (cd : Value) (A : Around) (outer : List Env) (s : Shared) (H1 : Hp) (E1 : XK) (W : WX) (vs : List V) (H : Hp) (Q : VK) (E : XK), Cn (fx P w K mg base N qual st f cd A outer s H1 E1) W k → Own (fx P w K mg base N qual st f cd A outer s H1 E1) →
      (∀ c d σ H', E c d H' → W c d σ H') → sp vs H Q E → WSs (fx P w K mg base N qual st f cd A outer s H1 E1) (defBody st) { nx := fun _ H' => Q .non H', rt := Q } (start N vs) H) : FnG P w K mg base (k + 1) f fd ps sp := by
  obtain ⟨oc, od, kV, doc, pm, an, cd, ct, osl, rfl, lk, hcd⟩ := F.ex
  refine ⟨len, fun A outer s H1 args us vs H Q E hr hgd e0 hb r hx hsp => ?_⟩
  have KX : K.In s.heap := e0.mod.kin.keeps fun b o e => (e0.bs b o e).1
  have hl := len _ _ _ _ hsp
  have kinds : ∀ y ∈ ps.zip us, (defScope st).names.lookup y.1 = some .local ∨ ((defScope st).names.lookup y.1 = some .cell ∧ ((cellsFrom (s.heap.objs.size + 1) (defScope st).names []).lookup y.1).isSome = true) := by
    rintro ⟨n, v⟩ hy
    rcases S.par n (List.of_mem_zip hy).1 with q | q
    · exact .inl q
    · exact .inr ⟨q, PySem.W.cellsFrom_some _ _ _ (.inl q)⟩
  refine codeAny_call_function hr.depth (KX _ _ lk) rfl S.co S.gen rfl (PySem.W.codeRec_of KX hcd) (hb _ _ _ _ (wpAny_newFunctionEnv_cells S.kind kinds fun env he s1 x => ?_))
  subst he
  refine ⟨(e0.mod.nolimit.keeps fun b o e => (e0.bs b o e).1).keeps x.toInCall.keep, codeAny_func ?_⟩
  have I := inv_start (CX := L2.CX P w) (E := upE E) S hr.hd e0 hl r x
  have c : Cn (fx P w K mg base N qual st f cd A outer s H1 (upE E)) (fun c d _ H' => upE E c d H') k :=
    ⟨hr.deeper _, hgd, takes_of (E := upE E) rfl rfl rfl rfl, fun c d σ H H' ⟨H2, x2, q⟩ x3 => ⟨H2, x2.trans x3, q⟩⟩
  have w1 := body cd A outer s H1 (upE E) _ vs H Q E c (passes_of rfl) (fun c d σ H' q => ⟨H', Ex.refl H', q⟩) hsp
  refine wpAny_mono (w1 H1 hx [] s1 I) (fun fl s' q => ?_) fun e s' q => q
  cases fl with
  | ret u =>
    obtain ⟨v, σ', H', J, rv, q⟩ := q
    exact ⟨v, H', J.os, J.bare, J.base, J.hok, rv, q⟩
  | next =>
    obtain ⟨σ', H', J, q⟩ := q
    exact ⟨.non, H', J.os, J.bare, J.base, J.hok, rfl, q⟩
  | brk =>
    obtain ⟨_, _, _, _, _, q⟩ := q
    exact q.elim
  | cont =>
    obtain ⟨_, _, _, _, _, q⟩ := q
    exact q.elim
/-- a def that is found under its name: level, parameters, defaults, promise -/
structure Cal (P : Program) (w : World) (K : PySem.W.Frag) (mg : Str → Option Value) (base : Heap) (n : Str) (k : Nat) (ps : List Str) (dvs : List V) (sp : Sp) : Prop where
  ex : ∃ (f : Addr) (fd : FuncData) (ds : List Value), FnG P w K mg base k f fd ps sp ∧ mg n = some (.ref f) ∧ PySem.W.keepIn K (.ref f) = true ∧ Binds K fd ps ds ∧ Vals dvs ds ∧ ∃ oc od osl, K.lookup f = some ⟨oc, od, .func fd, osl⟩
/-- where a def stands -/
structure Def (K : PySem.W.Frag) (mg : Str → Option Value) (n : Str) (st : Stmt) (ps : List Str) : Type where
  f : Addr
  fd : FuncData
  F : Fun K n n st f fd
  g : mg n = some (.ref f)
  b : Binds K fd ps []
theorem Def.cal {n : Str} {st : Stmt} {ps N : List Str} {k : Nat} {sp : Sp} (d : Def K mg n st ps) (S : FnScope N ps (defScope st)) (len : ∀ vs H Q E, sp vs H Q E → vs.length = ps.length)
    (body : ∀ (cd : Value) (A : Around) (outer : List Env) (s : Shared) (H1 : Hp) (E1 : XK) (W : WX) (vs : List V) (H : Hp) (Q : VK) (E : XK), Cn (fx P w K mg base N n st d.f cd A outer s H1 E1) W k → Own (fx P w K mg base N n st d.f cd A outer s H1 E1) →
      (∀ c d σ H', E c d H' → W c d σ H') → sp vs H Q E → WSs (fx P w K mg base N n st d.f cd A outer s H1 E1) (defBody st) { nx := fun _ H' => Q .non H', rt := Q } (start N vs) H) : Cal P w K mg base n (k + 1) ps [] sp :=
  ⟨d.f, d.fd, [], fng_of d.F S len body, d.g, d.F.kp, d.b, .nil, by
    obtain ⟨oc, od, kV, doc, pm, an, cd, ct, osl, e, lk, _⟩ := d.F.ex
    exact ⟨oc, od, osl, lk⟩⟩
end

section
variable {X : Cx} {W : WX} {e : Expr} {es : List Expr} {σ : St} {H H1 : Hp} {Q : VK} {E : XK} {v : V} {vs dvs : List V} {n : Str} {k j : Nat} {f : Addr} {fd : FuncData} {ps : List Str} {sp : Sp} {us ds : List Value} {p pos : Pos} {pins : List (Addr × Obj)} {s : Shared}
theorem run_fng (F : FnG X.prog X.w X.K X.mg X.base k f fd ps sp) (c : Cn X W k) (hb : Binds X.K fd ps ds) (hd : Vals dvs ds) (I : Inv X pins σ H1 s) (x : Ex H H1) (r : Vals vs us) (h : sp (vs ++ dvs) H Q fun c d H' => W c d σ H') :
    wpAny (model X.prog X.w) X.A (call (.ref f) us) (EP X pins σ (up Q)) X.xe s := by
  have r2 := r.append hd
  have hl : (us ++ ds).length = ps.length := r2.length.symm.trans (F.len _ _ _ _ h)
  refine wpAny_call (codeAny_mono (F.run X.A X.stack s H1 ⟨us, []⟩ (us ++ ds) (vs ++ dvs) H Q _ c.room c.gd I.env0 (hb s us I.kIn hl) r2 x h) fun res s' q => ?_)
  rcases res with er | fl
  · exact c.tk er s' (XE.of_call I (fun cl d H' ⟨H2, x2, q2⟩ => c.wu _ _ _ _ _ q2 x2) q)
  · cases fl with
    | ret u => exact I.after q
    | _ => exact q.elim
theorem we_call (C : Cal X.prog X.w X.K X.mg X.base n k ps dvs sp) (c : Cn X W j) (ha : WA X (e :: es) σ H fun vs H1 => sp (vs ++ dvs) H1 Q fun c d H' => W c d σ H') (hkj : k ≤ j := by decide) (hg : Gl X n := by rfl) (hdb : (n == ("__debug__" : Str)) = false := by decide)
    (he : starEach (e :: es) X.env = (false, eval e X.env) :: starEach es X.env := by rfl) (hpl : (backTo pos (starEach es X.env)).any (·.1) = false := by rfl) : WE X (.Call (.Name n p) (e :: es) [] pos) σ H Q := by
  obtain ⟨f, fd, ds, F, hm, hk, hb, hd, _⟩ := C.ex
  intro H1 x pins s I
  refine wpAny_Call_Name_kw (ld_glob I hg hm (PySem.W.callWith_K (h₀ := X.base) I.ok.mod.kin hk (thn (ha H1 x pos pins s I) fun us s1 ⟨vs, H2, I2, r, H3, x3, q⟩ => ⟨I2.kIn, ?_⟩) he hpl) hdb)
  exact run_fng F (c.mono hkj) hb hd I2 x3 r q
theorem we_call0 (C : Cal X.prog X.w X.K X.mg X.base n k ps dvs sp) (c : Cn X W j) (h : sp dvs H Q fun c d H' => W c d σ H') (hkj : k ≤ j := by decide) (hg : Gl X n := by rfl) (hdb : (n == ("__debug__" : Str)) = false := by decide) : WE X (.Call (.Name n p) [] [] pos) σ H Q := by
  obtain ⟨f, fd, ds, F, hm, hk, hb, hd, _⟩ := C.ex
  intro H1 x pins s I
  exact wpAny_Call_Name_kw (ld_glob I hg hm (PySem.W.callWith_K0 I.kIn hk (run_fng (us := []) (vs := []) F (c.mono hkj) hb hd I x .nil h)) hdb)
/-- a call whose value is told by the arguments, that leaves all as it is -/
theorem ev_call (C : Cal X.prog X.w X.K X.mg X.base n k ps dvs sp) (c : Cn X W j) (ha : EA X (e :: es) σ H vs) (h : ∀ H1, Ex H H1 → ∀ Q E, Q v H1 → sp (vs ++ dvs) H1 Q E) (hkj : k ≤ j := by decide) (hg : Gl X n := by rfl) (hdb : (n == ("__debug__" : Str)) = false := by decide)
    (he : starEach (e :: es) X.env = (false, eval e X.env) :: starEach es X.env := by rfl) (hpl : (backTo pos (starEach es X.env)).any (·.1) = false := by rfl) : EV X (.Call (.Name n p) (e :: es) [] pos) σ H v := fun H1 x Q q =>
  we_call C c ((ha.ex x).wa (h H1 x Q _ q)) hkj hg hdb he hpl
end

/-! ## raise -/
section
variable {X : Cx} {W : WX} {e : Expr} {es : List Expr} {σ : St} {H H1 : Hp} {Q : VK} {D : Ends} {E : XK} {n : Str} {C : Addr} {p pos : Pos} {k : Nat}
def WM (X : Cx) (e : Expr) (σ : St) (H : Hp) (E : XK) : Prop := ∀ H1, Ex H H1 → ∀ pins s, Inv X pins σ H1 s → wpAny (model X.prog X.w) X.A (eval e X.env) (MkP X pins σ (upE E)) X.xe s
theorem ws_raise (c : Cn X W k) (h : WM X e σ H fun c d H' => W c d σ H') (hc : X.calm = true := by rfl) : WS X (.Raise (some e) none pos) D σ H :=
  .of (ps_raise hc c.tk (t := fun σ H1 E1 => ∃ H E, Ex H H1 ∧ WM X e σ H E ∧ ∀ c d H', upE E c d H' → E1 c d H') fun pins s σ H1 E1 I ⟨H, E, x, w, k⟩ =>
    thn (w H1 x pins s I) fun u s1 ⟨a, oe, vs, sI, H', cls, d, e1, J, k1, hne, ha, hz, hd, h1, na, os, ag, r, q⟩ => ⟨a, oe, vs, sI, H', cls, d, e1, J, k1, hne, ha, hz, hd, h1, na, os, ag, r, k _ _ _ q⟩)
    fun H1 x => ⟨H, _, x, h, fun c1 d1 H' ⟨H2, x2, q⟩ => c.wu _ _ _ _ _ q x2⟩
/-- an own class of error without an __init__ -/
structure ErrC (K : PySem.W.Frag) (mg : Str → Option Value) (n : Str) (C : Addr) : Prop where
  g : mg n = some (.ref C)
  x : PySem.W.excIn K C [.type "ValueError", .type "Exception", .type "BaseException", .type "object"] "ValueError.__new__" = true
  kp : PySem.W.keepIn K (.ref C) = true
  sb : PySem.W.subIn K (.ref C) (.type "BaseException") = some true
  ty : PySem.W.typeIn K (.ref C) = some (.type "type")
  dd : PySem.W.hasDictIn K C = true
theorem wm_err (T : ErrC X.K X.mg n C) (ha : WA X (e :: es) σ H fun vs H1 => vs.length ≤ 1000 ∧ E (.ref C) none H1) (hg : Gl X n := by rfl) (hdb : (n == ("__debug__" : Str)) = false := by decide)
    (he : starEach (e :: es) X.env = (false, eval e X.env) :: starEach es X.env := by rfl) (hpl : (backTo pos (starEach es X.env)).any (·.1) = false := by rfl) : WM X (.Call (.Name n p) (e :: es) [] pos) σ H E := fun H1 x pins s I =>
  (pmk_ownA PySem.F.excBase_ValueError T.x T.g T.kp (raises_own T.sb T.ty) hg pa_W hdb he hpl) pins s σ H1 _ I (ha.t x fun vs H2 ⟨H3, x3, hz, q⟩ => ⟨Nat.le_trans hz (by decide), H3, x3, q⟩)
end

/-! ## f-strings -/
section
variable {X : Cx} {e a b : Expr} {es : List Expr} {σ : St} {H H1 : Hp} {p pos : Pos}
theorem ev_fmtI {i : Int} (h : EV X e σ H (.int i)) (hi : i.natAbs.log2 < 1920) : EV X (.FormattedValue e (-1) none pos) σ H (.str (toString i)) := fun H1 x Q q =>
  .of (pe_fmt pe_W) fun H2 x2 => ((h.ex x).we (Q := fun v H => v = .int i ∧ Q (.str (toString i)) H) ⟨rfl, q⟩).t x2 fun v H3 ⟨H4, x4, ev, q⟩ => .inr ⟨i, ev, hi, H4, x4, q⟩
theorem ev_fmtS {y : Str} (h : EV X e σ H (.str y)) (hi : y.length ≤ sizeLine) : EV X (.FormattedValue e (-1) none pos) σ H (.str y) := fun H1 x Q q =>
  .of (pe_fmt pe_W) fun H2 x2 => ((h.ex x).we (Q := fun v H => v = .str y ∧ Q (.str y) H) ⟨rfl, q⟩).t x2 fun v H3 ⟨H4, x4, ev, q⟩ => .inl ⟨y, ev, hi, H4, x4, q⟩
inductive JV (X : Cx) (σ : St) (H : Hp) : List Expr → List Str → Prop where
  | nil : JV X σ H [] []
  | cons {e : Expr} {y : Str} {es : List Expr} {ys : List Str} (h : EV X e σ H (.str y)) (r : JV X σ H es ys) : JV X σ H (e :: es) (y :: ys)
theorem JV.pj {ys : List Str} (h : JV X σ H es ys) : PJ X es (es.map (tWE X)) := by
  induction h with
  | nil => exact .nil
  | cons h r ih => exact .cons pe_W ih
theorem strlen (a b : Str) : (a ++ b).length = a.length + b.length := by
  show (Str.mk (a.cps ++ b.cps)).cps.size = _
  simp [Str.length]
theorem JV.run {ys : List Str} (h : JV X σ H es ys) : ∀ (acc : Str) (Q : Str → Hp → Prop) (H1 H2 : Hp), Ex H H1 → Ex H1 H2 → acc.length + (ys.map Str.length).sum ≤ sizeLine → (∀ H3, Ex H1 H3 → Q (ys.foldl (· ++ ·) acc) H3) → tJs (es.map (tWE X)) acc σ H2 Q := by
  induction h with
  | nil => intro acc Q H1 H2 x x2 hz k; exact k H2 x2
  | @cons e y es ys h r ih =>
    intro acc Q H1 H2 x x2 hz k
    refine ((h.ex x).we (Q := fun v H => v = .str y ∧ H = H1) ⟨rfl, rfl⟩).t x2 fun v H3 ⟨H4, x4, ev, eH⟩ => ?_
    subst ev; subst eH
    have hz2 : acc.length + (y.length + (ys.map Str.length).sum) ≤ sizeLine := by simpa using hz
    exact ⟨y, rfl, by rw [strlen]; omega, ih (acc ++ y) Q H4 H3 x x4 (by rw [strlen]; omega) k⟩
theorem ev_joined {ys : List Str} {z : Str} (h : JV X σ H (a :: b :: es) ys) (hz : (ys.map Str.length).sum ≤ 1000000) (e : ys.foldl (· ++ ·) Str.empty = z) : EV X (.JoinedStr (a :: b :: es) pos) σ H (.str z) := fun H1 x Q q =>
  .of (pe_joined h.pj) fun H2 x2 => h.run Str.empty _ H1 H2 x x2 (by show 0 + _ ≤ _; rw [Nat.zero_add]; exact Nat.le_trans hz (by decide)) fun H3 x3 => by rw [e]; exact ⟨H1, x3, q⟩
end
/-! ## try -/
section
variable {X : Cx} {W : WX} {body suite : List Stmt} {b0 : Stmt} {σ : St} {H H1 : Hp} {D : Ends} {n x : Str} {i k : Nat} {c : Value} {np pos pos' : Pos}
/-- the suite's ends, the name gone -/
def endsAs (i : Nat) (D : Ends) : Ends := { nx := fun σ' H' => D.nx (σ'.set i none) H', rt := D.rt, bk := fun σ' H' => D.bk (σ'.set i none) H', ct := fun σ' H' => D.ct (σ'.set i none) H' }
def Suite (X : Cx) (a : Addr) (cls : Value) (d : Option Addr) (sts : List Stmt) (D : Ends) (σ : St) (H : Hp) : Prop := ∀ oe pn, Zc cls d oe → (∃ vs, oe.data = .fields vs) → WSs (X.suite a ((a, oe) :: pn)) sts D σ H
/-- what the body may let out: the clause's own, or what passes on -/
def wishAs (X : Cx) (c : Value) (i : Nat) (sts : List Stmt) (W : WX) (D : Ends) : WX := fun cls d σ H =>
  ∃ b, PySem.W.exmOne X.K cls c = some b ∧ (b = true → ∀ a, Suite X a cls d sts (endsAs i D) (σ.set i (some (.ref a))) H) ∧ (b = false → W cls d σ H)
def wishO (X : Cx) (c : Value) (sts : List Stmt) (W : WX) (D : Ends) : WX := fun cls d σ H =>
  ∃ b, PySem.W.exmOne X.K cls c = some b ∧ (b = true → ∀ a, Suite X a cls d sts D σ H) ∧ (b = false → W cls d σ H)
def upW (W : WX) : WX := fun c d σ H => ∃ H', Ex H' H ∧ W c d σ H'
theorem Cn.tr {k : Nat} {W W1 : WX} {pn : List (Addr × Obj)} {xe : Value → Shared → Prop} (cn : Cn X W k) (tk : Takes (X.tr pn xe) W1) (h : ∀ c d σ H, upW W1 c d σ H → W1 c d σ H) : Cn (X.tr pn xe) W1 k :=
  ⟨cn.room, cn.gd, tk, fun c d σ H H' w x => h _ _ _ _ ⟨H, x, w⟩⟩
def tSuite (X : Cx) (sts : List Stmt) (a : Addr) (cls : Value) (d : Option Addr) : TS := fun D1 σ H1 => ∃ H D, Ex H H1 ∧ Suite X a cls d sts D σ H ∧ EndsLe D D1
def tBody (X : Cx) (sts : List Stmt) (W : WX) : TS := fun D1 σ H1 => ∃ H D, Ex H H1 ∧ (∀ pn xe, Takes (X.tr pn xe) W → PassesOwn (model X.prog X.w) X.A X.env xe → WSs (X.tr pn xe) sts D σ H) ∧ EndsLe D D1
/-- try: body / except x as n: suite -/
theorem ws_tryAs (cn : Cn X W k) (hN : X.N.Nodup) (hi : X.N[i]? = some n) (hx : X.mg x = some c) (h : ∀ pn xe, Cn (X.tr pn xe) (upW (wishAs X c i (b0 :: suite) W D)) k → PassesOwn (model X.prog X.w) X.A X.env xe → WSs (X.tr pn xe) body D σ H)
    (hg : Gl X x := by rfl) (hl : X.env.kindOf n = some .local := by rfl) (hdb : (x == ("__debug__" : Str)) = false := by decide) (hs : X.stack = X.env :: X.outer := by rfl) (hf : X.env.frame = some X.env.locals := by rfl) :
    WS X (.Try body [.ExceptHandler (some (.Name x np)) (some n) (b0 :: suite) pos'] [] [] pos) D σ H :=
  .of (ps_try_as hs hf hN hi hl (c := c) ⟨hg, hdb, .inl hx⟩ cn.tk (tb := tBody X body) (ts := tSuite X (b0 :: suite))
    (fun W1 pn xe tk po => ⟨fun pins s σ H1 D1 I ⟨H, D, x, w, k⟩ => thn (w pn xe tk po H1 x pins s I) fun u s' q => SP.le k q⟩)
    (fun a oe cls d pn hz hf => ⟨fun pins s σ H1 D1 I ⟨H, D, x, w, k⟩ => thn (w oe pn hz hf H1 x pins s I) fun u s' q => SP.le k q⟩))
    fun H1 x1 => ⟨H, D, x1, fun pn xe tk po => h pn xe (cn.tr (tk.imp fun cls d σ H2 ⟨H3, x3, b, e, y, no⟩ => ⟨b, e, fun hb a _ => ⟨H3, _, x3, y hb a, ⟨fun _ _ q => q, fun _ _ q => q, fun _ _ q => q, fun _ _ q => q⟩⟩, fun hb => cn.wu _ _ _ _ _ (no hb) x3⟩)
      fun c d σ H ⟨H2, x2, H3, x3, q⟩ => ⟨H3, x3.trans x2, q⟩) po, EndsLe.rfl⟩
theorem ws_tryO (cn : Cn X W k) (hx : X.mg x = some c) (h : ∀ pn xe, Cn (X.tr pn xe) (upW (wishO X c (b0 :: suite) W D)) k → PassesOwn (model X.prog X.w) X.A X.env xe → WSs (X.tr pn xe) body D σ H)
    (hg : Gl X x := by rfl) (hdb : (x == ("__debug__" : Str)) = false := by decide) (hs : X.stack = X.env :: X.outer := by rfl) (hf : X.env.frame = some X.env.locals := by rfl) :
    WS X (.Try body [.ExceptHandler (some (.Name x np)) none (b0 :: suite) pos'] [] [] pos) D σ H :=
  .of (ps_try_only hs hf (c := c) ⟨hg, hdb, .inl hx⟩ cn.tk (tb := tBody X body) (ts := tSuite X (b0 :: suite))
    (fun W1 pn xe tk po => ⟨fun pins s σ H1 D1 I ⟨H, D, x, w, k⟩ => thn (w pn xe tk po H1 x pins s I) fun u s' q => SP.le k q⟩)
    (fun a oe cls d pn hz hf => ⟨fun pins s σ H1 D1 I ⟨H, D, x, w, k⟩ => thn (w oe pn hz hf H1 x pins s I) fun u s' q => SP.le k q⟩))
    fun H1 x1 => ⟨H, D, x1, fun pn xe tk po => h pn xe (cn.tr (tk.imp fun cls d σ H2 ⟨H3, x3, b, e, y, no⟩ => ⟨b, e, fun hb a _ => ⟨H3, _, x3, y hb a, EndsLe.rfl⟩, fun hb => cn.wu _ _ _ _ _ (no hb) x3⟩)
      fun c d σ H ⟨H2, x2, H3, x3, q⟩ => ⟨H3, x3.trans x2, q⟩) po, EndsLe.rfl⟩
/-- isinstance(e, C) of the error that the suite holds -/
theorem ec_isE {a E : Addr} {oe : Obj} {pn : List (Addr × Obj)} {cv : V} {u : Value} {b : Bool} {H : Hp} (T : ExcC X.K E) (hz : Zc (.ref E) none oe) (hf : ∃ vs, oe.data = .fields vs) (hc : RelV cv u) (hu : ∀ w, RelV cv w → w = u) (hk : PySem.W.kitOne X.K (.ref E) u = some b) :
    EC (X.suite a ((a, oe) :: pn)) (.builtin "isinstance") [.ref a, cv] H (.bl b) := ec_of (call_isE T hz hf) fun _ _ _ q => ⟨cv, u, b, rfl, hu, hk, q⟩
end

/-! ## the law's end -/
section
variable {P : Program} {w : World} {K : PySem.W.Frag} {mg mb : Str → Option Value} {k : Nat} {fa a : Addr} {fd : FuncData} {x : Str} {sp : Sp} {s : Shared} {vs : List Value} {ns : List Int}
/-- from an abstract heap that tracks nothing but the script -/
theorem end_from (KX : K.In s.heap) (hns : s.heap.Ns mainGlobals mg) (hb : s.heap.Ns builtinsNs mb) (hbb : ∀ x : Str, x ≠ "__name__" → mb x = bootBuiltins x) (hlim : s.heap.NoLimit) (hg : s.gens = #[])
    (ha : s.heap.get? a = some { cls := .type "list", data := .seq vs.toArray }) (hr : Room k callerA) (F : ∀ base : Heap, FnG P w K mg base k fa fd [x] sp) (hbind : ∀ (s : Shared) (u : Value), BindsTo s fd ⟨[u], []⟩ [(x, u)])
    (H : Hp) (hO : Only H) (hok : HOk P w H s.heap) (hA : ∀ b, H b ≠ none → b = a) (hK : H a ≠ none → K.lookup a = none) (hsp : sp [.ref a] H (fun v _ => v = .bl true) fun _ _ _ => False) :
    codeAny (model P w) callerA (.call (.ref fa) ⟨[.ref a], []⟩) (fun r s' => r = .ok (.ret (.bool true)) ∧ OldK s.heap s'.heap ∧ s'.os = s.os ∧ AllBare s'.gens) s := by
  have notDict : ∀ {b : Addr} {o : Obj} {es : Array DictEntry} {ep : Nat}, s.heap.get? b = some o → o.data = .dict es ep → H b = none := by
    intro b o es ep e d
    cases q : H b with
    | none => rfl
    | some u =>
      obtain rfl : b = a := hA b (by rw [q]; simp)
      rw [ha] at e; cases e; cases d
  have ns1 : ∀ {b : Addr} {m : Str → Option Value}, s.heap.Ns b m → (hidT s.heap H).Ns b m := fun ⟨o, es, ep, e, d, r⟩ => ⟨o, es, ep, hidT_get e (notDict e d), d, r⟩
  have KB : K.In (hidT s.heap H) := by
    intro b o e
    refine hidT_get (KX b o e) ?_
    cases q : H b with
    | none => rfl
    | some u =>
      obtain rfl : b = a := hA b (by rw [q]; simp)
      rw [hK (by rw [q]; simp)] at e; cases e
  have e0 : Env0 P w K mg (hidT s.heap H) callerA [] s H :=
    ⟨rfl, ⟨KB, ns1 hns, ⟨mb, ns1 hb, hbb⟩, by obtain ⟨mc, h1, h2⟩ := hlim; exact ⟨mc, ns1 h1, h2⟩⟩, fun b o e => of_hidT e, Nat.le_of_eq (hidT_size _ _), trivial, (fun b z => by cases z), hok, .of_eq hg⟩
  refine codeAny_mono ((F _).run callerA [] s H ⟨[.ref a], []⟩ [.ref a] [.ref a] H _ _ hr rfl e0 (hbind s (.ref a)) (.cons rfl .nil) (Ex.refl H) hsp) fun r s' h => ?_
  rcases r with er | fl
  · obtain ⟨_, _, _, _, _, _, _, _, _, _, _, _, H2, _, z⟩ := h
    exact z.elim
  · cases fl with
    | ret u =>
      obtain ⟨v, H', os, bare, un, hok', rv, H2, _, q⟩ := h
      subst q
      obtain rfl : u = Value.bool true := rv
      refine ⟨rfl, OldK.of_keep fun b o e => ?_, os, bare⟩
      rcases hO b with z | ⟨ob, xs, z⟩
      · exact un.keep b o e z (by intro q; cases q) (by simp)
      · have e1 := (hok b _ z).1
        have e2 := (hok' b _ (un.frzs b ob _ z)).1
        rw [e] at e1; cases e1
        exact e2
    | _ => exact h.elim
theorem end_call (KX : K.In s.heap) (hns : s.heap.Ns mainGlobals mg) (hb : s.heap.Ns builtinsNs mb) (hbb : ∀ x : Str, x ≠ "__name__" → mb x = bootBuiltins x) (hlim : s.heap.NoLimit) (hg : s.gens = #[])
    (ha : s.heap.get? a = some { cls := .type "list", data := .seq vs.toArray }) (hi : IntsAre vs ns) (hl : ns.length ≤ sizeLine) (hr : Room k callerA) (F : ∀ base : Heap, FnG P w K mg base k fa fd [x] sp) (hbind : ∀ (s : Shared) (u : Value), BindsTo s fd ⟨[u], []⟩ [(x, u)])
    (hsp : ∀ H : Hp, Only H → SqL K H a (ns.map V.int) → sp [.ref a] H (fun v _ => v = .bl true) fun _ _ _ => False) :
    codeAny (model P w) callerA (.call (.ref fa) ⟨[.ref a], []⟩) (fun r s' => r = .ok (.ret (.bool true)) ∧ OldK s.heap s'.heap ∧ s'.os = s.os ∧ AllBare s'.gens) s := by
  have rv := vals_ints hi
  have lv := hi.length
  cases q : K.lookup a with
  | some o =>
    have e := KX a o q
    rw [ha] at e; cases e
    refine end_from KX hns hb hbb hlim hg ha hr F hbind (fun _ => none) (fun _ => .inl rfl) (fun b u z => by cases z) (fun b z => absurd rfl z) (fun z => absurd rfl z) (hsp _ (fun _ => .inl rfl) (.inr ⟨_, vs.toArray, _, q, rfl, rfl, rfl, ?_, by simpa using rv⟩))
    rw [List.size_toArray, lv]
    exact hl
  | none =>
    let ob : Obj := { cls := .type "list", data := .seq vs.toArray }
    let H : Hp := fun b => if b = a then some (.frz ob (.lst (ns.map V.int))) else none
    have hO : Only H := fun b => by
      by_cases e : b = a
      · exact .inr ⟨ob, _, if_pos e⟩
      · exact .inl (if_neg e)
    have hA : ∀ b, H b ≠ none → b = a := fun b z => Classical.byContradiction fun e => z (if_neg e)
    refine end_from KX hns hb hbb hlim hg ha hr F hbind H hO (fun b u z => ?_) hA (fun _ => q) (hsp H hO (.inl (.inr ⟨ob, if_pos rfl⟩)))
    obtain rfl := hA b (by rw [z]; simp)
    have z1 : some (HO.frz ob (.lst (ns.map V.int))) = some u := (if_pos rfl).symm.trans z
    cases z1
    exact ⟨ha, by rw [List.length_map]; exact hl, vs, _, rv, ha⟩
/-- the goal that k_head leaves, from the law's promise (the script's bits told) -/
theorem walk_end {l : PySem.W.OpenLaw} {n k : Nat} {q : Program} {loose : List Str} {XP : (Str → Option Value) → Heap → Prop} {YP : World → Heap → Prop} {d : DefRec} {K : Params → PySem.W.Frag} {sp : World → Sp} {x : Str}
    (hn : l.most = some n) (hn2 : n ≤ sizeLine) (hdf : d.params.defaults = []) (hr : Room k callerA) (hY : ∀ (w : World) (h : Heap), YP w h → (K w.params).In h)
    (F : ∀ (w : World) (mg : Str → Option Value) (fa : Addr) (h : Heap), (K w.params).In h → h.Ns mainGlobals mg → mg d.name = some (.ref fa) →
      ∃ fd : FuncData, (∀ (s : Shared) (u : Value), BindsTo s fd ⟨[u], []⟩ [(x, u)]) ∧ ∀ base : Heap, FnG l.prog w (K w.params) mg base k fa fd [x] (sp w))
    (hsp : ∀ (w : World) (H : Hp) (a : Addr) (ns : List Int), ns.length ≤ n → (∀ z ∈ ns, Builtin.Int.intBits z ≤ 1048576) → Only H → SqL (K w.params) H a (ns.map V.int) → sp w [.ref a] H (fun v _ => v = .bl true) fun _ _ _ => False) :
    PySem.W.WalkO q loose XP YP l.row.toRowW d [] (fun f vs => PySem.call f vs) := by
  refine Att.attach_callB hn hdf fun w s0 s1 mg mb fa o pm cd doc a vs ns G Y ho hd hcd hmg hobj hints hlen hbits hg => ?_
  obtain ⟨fd, hb, hF⟩ := F w mg fa _ (hY w _ Y) G.T.g hmg
  exact end_call (hY w _ Y) G.T.g G.T.b G.T.builtins G.T.nolimit hg hobj hints (Nat.le_trans hlen hn2) hr hF hb fun H hO hS => hsp w H a ns hlen hbits hO hS
end
/-! ## what a value's class is -/
inductive Ty (H : Hp) : V → String → Prop
  | non : Ty H .non "NoneType"
  | bl (b : Bool) : Ty H (.bl b) "bool"
  | int (i : Int) : Ty H (.int i) "int"
  | str (s : Str) : Ty H (.str s) "str"
  | lst {p : Addr} {xs : List V} (h : H p = some (.lst xs)) : Ty H (.ref p) "list"
  | tup {p : Addr} {xs : List V} (h : H p = some (.tup xs)) : Ty H (.ref p) "tuple"
  | dct {p : Addr} {xs : List (Key × V)} (h : H p = some (.dK xs)) : Ty H (.ref p) "dict"
theorem Ty.ex {H H' : Hp} (x : Ex H H') : ∀ {v : V} {T : String}, Ty H v T → Ty H' v T
  | _, _, .non => .non
  | _, _, .bl b => .bl b
  | _, _, .int b => .int b
  | _, _, .str b => .str b
  | _, _, .lst h => .lst (x _ _ h)
  | _, _, .tup h => .tup (x _ _ h)
  | _, _, .dct h => .dct (x _ _ h)
theorem Ty.x {K : PySem.W.Frag} {H : Hp} : ∀ {v : V} {T : String}, Ty H v T → TyX K H v (.type T)
  | _, _, .non => .base .non
  | _, _, .bl b => .base (.bl b)
  | _, _, .int b => .base (.int b)
  | _, _, .str b => .base (.str b)
  | _, _, .lst h => .base (.lst h)
  | _, _, .tup h => .base (.tup h)
  | _, _, .dct h => .base (.dK h)
def tyIs (T U : String) : Bool := T == U || (T == "bool" && U == "int")
theorem kit_is {H : Hp} {v : V} {T U : String} (ht : Ty H v T) (hU : U = "int" ∨ U = "bool" ∨ U = "str" ∨ U = "list" ∨ U = "tuple" ∨ U = "dict") : kitB T U = some (tyIs T U) := by
  cases ht <;> rcases hU with rfl | rfl | rfl | rfl | rfl | rfl <;> decide +kernel
theorem ec_isT {X : Cx} {H : Hp} {v : V} {T U : String} (ht : Ty H v T) (hU : U = "int" ∨ U = "bool" ∨ U = "str" ∨ U = "list" ∨ U = "tuple" ∨ U = "dict") : EC X (.builtin "isinstance") [v, .ty U] H (.bl (tyIs T U)) :=
  ec_of call_isi fun _ x _ q => ⟨v, .ty U, _, _, _, rfl, .ty U, (ht.ex x).x, kit_ty (kit_is ht hU), q⟩
theorem ev_ty {X : Cx} {σ : St} {H : Hp} {pos : Pos} {n : Str} {T : String} (hm : X.mg n = none) (hv : bootBuiltins n = some (.type T)) (hg : Gl X n := by rfl) (hn : n ≠ "__name__" := by decide) (hd : (n == ("__debug__" : Str)) = false := by decide) : EV X (.Name n pos) σ H (.ty T) := ev_bltn hm hv rfl hg hn hd
def isInt : V → Bool
  | .int _ => true
  | _ => false
theorem Ty.int_is {H : Hp} {v : V} {T : String} (h : Ty H v T) : (tyIs T "int" && !tyIs T "bool") = isInt v := by cases h <;> rfl

/-! ## ends, forgetting -/
section
variable {X : Cx} {e : Expr} {sts : List Stmt} {σ : St} {H H1 H' : Hp} {D : Ends} {pos : Pos} {Q : VK} {v : V} {p q : Addr} {o u : HO}
theorem ws_retF (h : WE X e σ H fun v H1 => ∃ H', Ex H' H1 ∧ D.rt v H') : WS X (.Return (some e) pos) D σ H := ws_ret h.forget
theorem ws_retE (h : EV X e σ H v) (q : ∃ H', Ex H' H ∧ D.rt v H') : WS X (.Return (some e) pos) D σ H := ws_retF (h.we q)
theorem WSs.forget (x : Ex H H') (h : WSs X sts D σ H) : WSs X sts D σ H' := fun H1 x1 => h H1 (x.trans x1)
theorem wss_nilF (h : ∃ H', Ex H' H ∧ D.nx σ H') : WSs X [] D σ H := by
  obtain ⟨H', x, q⟩ := h
  exact WSs.forget x (wss_nil q)
theorem exput (x : Ex H H') (h : H' p = some o) : Ex (upd H p o) H' := fun a u ha => by
  by_cases e : a = p
  · subst e; rw [upd_same] at ha; rw [h]; exact ha
  · rw [upd_ne e] at ha; exact x a u ha
theorem upd_id (h : H p = some o) : upd H p o = H := by
  funext a
  by_cases e : a = p
  · subst e; rw [upd_same, h]
  · rw [upd_ne e]
theorem hp_ne (n : H p = none) (h : H q = some u) : upd H p o q = some u := Ex.put n _ _ h

/-- all but one object is as it was -/
def ExB (p : Addr) (H H' : Hp) : Prop := ∀ a o, a ≠ p → H a = some o → H' a = some o
theorem ExB.refl : ExB p H H := fun _ _ _ h => h
theorem ExB.set {o : HO} (x : ExB p H H') : ExB p H (upd H' p o) := fun a u n h => by rw [upd_ne n]; exact x a u n h
theorem ExB.new {q : Addr} {o : HO} (x : ExB p H H') (n : H' q = none) : ExB p H (upd H' q o) := fun a u ne h => hp_ne n (x a u ne h)
theorem ExB.ex (x : ExB p H H') (h : H p = some o) : Ex H (upd H' p o) := fun a u ha => by
  by_cases e : a = p
  · subst e; rw [upd_same, ← h, ha]
  · rw [upd_ne e]; exact x a u e ha
theorem lenle {xs : List V} (h : Nat.ble xs.length 100000 = true) : xs.length ≤ 100000 := Nat.le_of_ble_eq_true h

/-! ## an object by what stays true of it -/
/-- the drawing pot: two ints, the first one not negative, the second one small -/
def PotOk (a b : Int) : Prop := 0 ≤ a ∧ 0 ≤ b ∧ b < 2147483648
def PotAt (p : Addr) (h : Heap) : Prop := ∃ (a b : Int) (t u : Tok) (n : Nat), PotOk a b ∧ h.get? p = some { cls := .type "list", data := .seq [Value.int a t, Value.int b u].toArray n }
def pot (p : Addr) : HO := .ext (PotAt p)
theorem pot_ok {P : Program} {w : World} {H : Hp} {h : Heap} {a b : Int} (ok : PotOk a b) (x : ObjOk P w H h p (.lst [.int a, .int b])) (H2 : Hp) : ObjOk P w H2 h p (pot p) := by
  obtain ⟨_, its, n, r, e⟩ := x
  cases r with
  | cons r1 r2 =>
    cases r2 with
    | cons r2 r3 =>
      cases r3
      obtain ⟨t, rfl⟩ := r1
      obtain ⟨u, rfl⟩ := r2
      exact ⟨⟨a, b, t, u, n, ok, e⟩, ⟨_, e⟩, fun h1 h2 ⟨a, b, t, u, n, ok, e⟩ k => ⟨a, b, t, u, n, ok, k _ e⟩⟩
theorem pot_open {X : Cx} {pins : List (Addr × Obj)} {s : Shared} (I : Inv X pins σ H s) (h : H p = some (pot p)) : ∃ a b, PotOk a b ∧ Inv X pins σ (upd H p (.lst [.int a, .int b])) s := by
  obtain ⟨⟨a, b, t, u, n, ok, e⟩, _, _⟩ := I.hok p _ h
  exact ⟨a, b, ok, I.write (x := p) (e := p) (h' := s.heap) (t' := s.toks) (by rw [h]; trivial) (.inl rfl) (fun _ _ _ q => q) ⟨_, e⟩ ⟨by show 2 ≤ sizeLine; decide, _, n, .cons ⟨t, rfl⟩ (.cons ⟨u, rfl⟩ .nil), e⟩⟩
theorem pot_close {X : Cx} {pins : List (Addr × Obj)} {s : Shared} {a b : Int} (I : Inv X pins σ H s) (h : H p = some (.lst [.int a, .int b])) (ok : PotOk a b) : Inv X pins σ (upd H p (pot p)) s := by
  have z := I.hok p _ h
  obtain ⟨_, its, n, r, e⟩ := id z
  exact I.write (x := p) (e := p) (h' := s.heap) (t' := s.toks) (by rw [h]; trivial) (.inl rfl) (fun _ _ _ q => q) ⟨_, e⟩ (pot_ok ok z _)
/-- open the pot ahead of a block -/
theorem wss_pot (h : H p = some (pot p)) (k : ∀ a b, PotOk a b → WSs X sts D σ (upd H p (.lst [.int a, .int b]))) : WSs X sts D σ H := fun H1 x pins s I => by
  obtain ⟨a, b, ok, I2⟩ := pot_open I (x _ _ h)
  exact k a b ok _ (x.set p _) pins s I2
/-- close it behind a value -/
theorem we_pot (h : WE X e σ H fun v H2 => ∃ p a b, H2 p = some (.lst [.int a, .int b]) ∧ PotOk a b ∧ Q v (upd H2 p (pot p))) : WE X e σ H Q := fun H1 x pins s I =>
  thn (h H1 x pins s I) fun u s' ⟨v, H2, I2, r, H3, x3, p, a, b, hp, ok, q⟩ => ⟨v, _, pot_close I2 (x3 _ _ hp) ok, r, _, x3.set p _, q⟩
theorem pot_end {H2 : Hp} {a b : Int} (hp : H p = some (pot p)) (x : ExB p H H2) (h2 : H2 p = some (.lst [.int a, .int b])) (ok : PotOk a b) (q : Q v H) : ∃ p a b, H2 p = some (.lst [.int a, .int b]) ∧ PotOk a b ∧ ∃ H', Ex H' (upd H2 p (pot p)) ∧ Q v H' :=
  ⟨p, a, b, h2, ok, H, x.ex hp, q⟩
end
/-! ## sizes -/
theorem mul_okL {i j : Int} (h : -1000000000000000000 < i) (h2 : i < 1000000000000000000) : CMul i j := .inl ⟨by omega, by omega⟩
theorem mul_okR {i j : Int} (h : -1000000000000000000 < j) (h2 : j < 1000000000000000000) : CMul i j := .inr ⟨by omega, by omega⟩
theorem pow_ok {i j : Int} (h : 0 ≤ j) (h2 : j ≤ 1000000) (h3 : -1000000000000000000 < i) (h4 : i < 1000000000000000000) : CPow i j := ⟨h, h2, by omega⟩
theorem big_lt {i : Int} (h : -10000000000000000000000000000000000000000000000000000000000000000000000000000000000000000000000000000 ≤ i) (h2 : i ≤ 10000000000000000000000000000000000000000000000000000000000000000000000000000000000000000000000000000) : i.natAbs < 2 ^ 400 := Nat.lt_of_le_of_lt (show i.natAbs ≤ (10000000000000000000000000000000000000000000000000000000000000000000000000000000000000000000000000000:Int).toNat by show _ ≤ 10000000000000000000000000000000000000000000000000000000000000000000000000000000000000000000000000000; omega) (by decide +kernel)
theorem fdiv_ok {i j : Int} (h : 0 < j) (h2 : j ≤ 10000000000000000000000000000000000000000000000000000000000000000000000000000000000000000000000000000) : CDivW i j := wide_div (b := 400) h (big_lt (by omega) h2) (by decide) (by decide)
def DigOk (m : Int) : Prop := 0 < m ∧ m ≤ 10000000000000000000000000000000000000000000000000000000000000000000000000000000000000000000000000000
theorem dig_div {a m : Int} (h : DigOk m) : CDivP a m := ⟨h.1, PyProof.noPylong_of_log2 (fdiv_ok (i := a) h.1 h.2).2⟩
theorem shl_fits {i j : Int} (h : 0 ≤ j) (h2 : j ≤ 1000000) (h3 : -10000000000000000000000000000000000000000000000000000000000000000000000000000000000000000000000000000 ≤ i) (h4 : i ≤ 10000000000000000000000000000000000000000000000000000000000000000000000000000000000000000000000000000) : CShl i j := by
  obtain ⟨n, rfl⟩ := Int.eq_ofNat_of_zero_le h
  exact shl_ok (n := 400) (big_lt h3 h4) (by omega)
section
variable {X : Cx} {W : WX} {tg iter a : Expr} {body sts : List Stmt} {σ : St} {H : Hp} {D : Ends} {pos pos' p : Pos} {xs : List V} {q : Addr} {v : V}
theorem WG.mono {R R1 : St → Hp → Prop} (w : WG X tg v σ H R) (k : ∀ σ' H', R σ' H' → R1 σ' H') : WG X tg v σ H R1 := fun H1 x pins s u I r =>
  thn (w H1 x pins s u I r) fun _ s' ⟨σ', H2, I2, H3, x3, q⟩ => ⟨σ', H2, I2, H3, x3, k _ _ q⟩
/-- a turn's ends, the heap as it was -/
def endsAt (Pv : St → Prop) (H : Hp) (D : Ends) : Ends := { nx := fun σ' H' => Ex H H' ∧ Pv σ', ct := fun σ' H' => Ex H H' ∧ Pv σ', rt := D.rt, bk := D.nx }
theorem endsAt_le {Pv : St → Prop} : EndsLe (endsAt Pv H D) (upD { nx := fun σ' H' => H' = H ∧ Pv σ', ct := fun σ' H' => H' = H ∧ Pv σ', rt := D.rt, bk := D.nx }) :=
  ⟨fun _ _ ⟨_, x, y, p⟩ => ⟨H, y.trans x, rfl, p⟩, fun _ _ q => q, fun _ _ q => q, fun _ _ ⟨_, x, y, p⟩ => ⟨H, y.trans x, rfl, p⟩⟩
/-- for .. in a list, the heap of each turn forgotten -/
theorem ws_eachL (tk : Tk X W) (hl : EV X iter σ H (.ref q)) (hx : SqL X.K H q xs) (Pv : Nat → St → Prop) (h0 : Pv 0 σ)
    (turn : ∀ i x σ', xs[i]? = some x → Pv i σ' → WG X tg x σ' H fun σ2 H2 => WSs X body (endsAt (Pv (i + 1)) H D) σ2 H2)
    (done : ∀ σ', Pv xs.length σ' → D.nx σ' H) (hc : X.calm = true := by rfl) (hs : ∀ x, foldedSetIterable iter X.env x = pure x := by intro _; rfl) : WS X (.For tg iter body [] pos) D σ H :=
  ws_forL tk hl hx (fun i σ' H' => H' = H ∧ Pv i σ') ⟨rfl, h0⟩ (fun _ _ _ _ p => p.1 ▸ hx) (fun i x σ' H' hi p => by
    obtain ⟨rfl, p⟩ := p
    exact (turn i x σ' hi p).mono fun σ2 H2 w => w.le endsAt_le) (fun σ' H' p => by
    obtain ⟨rfl, p⟩ := p
    exact done _ p) hc hs
theorem ws_eachT (tk : Tk X W) (hl : EV X iter σ H (.ref q)) (hx : SqT X.K H q xs) (Pv : Nat → St → Prop) (h0 : Pv 0 σ)
    (turn : ∀ i x σ', xs[i]? = some x → Pv i σ' → WG X tg x σ' H fun σ2 H2 => WSs X body (endsAt (Pv (i + 1)) H D) σ2 H2)
    (done : ∀ σ', Pv xs.length σ' → D.nx σ' H) (hc : X.calm = true := by rfl) (hs : ∀ x, foldedSetIterable iter X.env x = pure x := by intro _; rfl) : WS X (.For tg iter body [] pos) D σ H :=
  ws_forT tk hl hx (fun i σ' H' => H' = H ∧ Pv i σ') ⟨rfl, h0⟩ (fun _ _ _ _ p => p.1 ▸ hx) (fun i x σ' H' hi p => by
    obtain ⟨rfl, p⟩ := p
    exact (turn i x σ' hi p).mono fun σ2 H2 w => w.le endsAt_le) (fun σ' H' p => by
    obtain ⟨rfl, p⟩ := p
    exact done _ p) hc hs
theorem ws_eachR {n : Int} (tk : Tk X W) (hm : X.mg "range" = none) (ha : EV X a σ H (.int n)) (hn : n ≤ 1000000) (hn0 : -1000000 ≤ n) (Pv : Nat → St → Prop) (h0 : Pv 0 σ)
    (turn : ∀ (i : Nat) σ', (i : Int) < n → Pv i σ' → WG X tg (.int i) σ' H fun σ2 H2 => WSs X body (endsAt (Pv (i + 1)) H D) σ2 H2)
    (done : ∀ σ', Pv n.toNat σ' → D.nx σ' H) (hc : X.calm = true := by rfl) (hg : Gl X "range" := by rfl) (hse : starEach [a] X.env = [(false, eval a X.env)] := by rfl) (hs : ∀ x, foldedSetIterable (.Call (.Name "range" p) [a] [] pos') X.env x = pure x := by intro _; rfl) :
    WS X (.For tg (.Call (.Name "range" p) [a] [] pos') body [] pos) D σ H :=
  ws_forR tk hm ha hn hn0 (fun i σ' H' => H' = H ∧ Pv i σ') ⟨rfl, h0⟩ (fun i σ' H' hi p => by
    obtain ⟨rfl, p⟩ := p
    exact (turn i σ' hi p).mono fun σ2 H2 w => w.le endsAt_le) (fun σ' H' p => by
    obtain ⟨rfl, p⟩ := p
    exact done _ p) hc hg hse hs
/-- a fact of the heap as it stands -/
theorem wss_have (p : Hp → Prop) (h : p H) (k : p H → WSs X sts D σ H) : WSs X sts D σ H := k h
end
/-- a def's promise at its own place (for the law itself) -/
theorem Def.fng {P : Program} {w : World} {K : PySem.W.Frag} {mg : Str → Option Value} {base : Heap} {n : Str} {st : Stmt} {ps N : List Str} {k : Nat} {sp : Sp} (d : Def K mg n st ps) (S : FnScope N ps (defScope st)) (len : ∀ vs H Q E, sp vs H Q E → vs.length = ps.length)
    (body : ∀ (cd : Value) (A : Around) (outer : List Env) (s : Shared) (H1 : Hp) (E1 : XK) (W : WX) (vs : List V) (H : Hp) (Q : VK) (E : XK), Cn (fx P w K mg base N n st d.f cd A outer s H1 E1) W k → Own (fx P w K mg base N n st d.f cd A outer s H1 E1) →
      (∀ c d σ H', E c d H' → W c d σ H') → sp vs H Q E → WSs (fx P w K mg base N n st d.f cd A outer s H1 E1) (defBody st) { nx := fun _ H' => Q .non H', rt := Q } (start N vs) H) : FnG P w K mg base (k + 1) d.f d.fd ps sp := fng_of d.F S len body
/-- a def from what the top has written -/
def def_mk {h : Heap} {K : PySem.W.Frag} {mg : Str → Option Value} {n : Str} {st : Stmt} (ps : List Str) (X : K.In h) (G : h.Ns mainGlobals mg) {f : Addr} {oc : Value} {od an : Option Addr} {osl : Array (Option Value)} {kV doc pm cdv ct : Value} (a : PySem.W.nsIn K mainGlobals n = some (some (.ref f)))
    (l : K.lookup f = some ⟨oc, od, .func (PySem.W.fnOf n n (defArgs st) (defBody st) (defScope st) .none kV doc pm an cdv ct), osl⟩) (c : PySem.W.codeIn K cdv n = true) (k : PySem.W.keepIn K (.ref f) = true)
    (b : ∀ us : List Value, us.length = ps.length → bindArgs (PySem.W.fnOf n n (defArgs st) (defBody st) (defScope st) .none kV doc pm an cdv ct) ⟨us, []⟩ = pure (ps.zip us)) : Def K mg n st ps :=
  ⟨f, _, fun_mk (st := st) l c k, PySem.W.mg_of X G a, .all b⟩
/-- the law's def handed to walk_end -/
theorem law_end {l : PySem.W.OpenLaw} {w : World} {K : PySem.W.Frag} {mg : Str → Option Value} {n x : Str} {st : Stmt} {k : Nat} {fa : Addr} {sp : Sp} (d : Def K mg n st [x]) (hfa : mg n = some (.ref fa)) (hb : ∀ us : List Value, us.length = 1 → bindArgs d.fd ⟨us, []⟩ = pure ([x].zip us))
    (F : ∀ base : Heap, FnG l.prog w K mg base k d.f d.fd [x] sp) : ∃ fd : FuncData, (∀ (s : Shared) (u : Value), BindsTo s fd ⟨[u], []⟩ [(x, u)]) ∧ ∀ base : Heap, FnG l.prog w K mg base k fa fd [x] sp := by
  have e := hfa.symm.trans d.g
  cases e
  exact ⟨d.fd, fun s u => .of_eq (hb [u] rfl), F⟩
/-- how often a law draws: max(1, min(m, len)) -/
theorem turns_lt {i : Nat} {l m : Int} (hm : 1 ≤ m) (h : (i : Int) < if (if l < m then l else m) > 1 then (if l < m then l else m) else 1) : (i : Int) < m := by split at h <;> (try split at h) <;> omega
theorem turns_le {l m : Int} (hm : m ≤ 1000000) : (if (if l < m then l else m) > 1 then (if l < m then l else m) else 1) ≤ 1000000 := by split <;> (try split) <;> omega
theorem turns_ge {l m : Int} : -1000000 ≤ (if (if l < m then l else m) > 1 then (if l < m then l else m) else 1) := by split <;> (try split) <;> omega
/-! ## comprehensions -/
theorem Cn.blk {X : Cx} {W : WX} {k : Nat} (c : Cn X W k) (s : Shared) (H : Hp) (scope : Scope) (C : Addr) (cl : List (Str × Addr)) (fp : List Addr) : Cn (X.blk s H scope (compEnvC scope cl C X.env) fp) (fun _ _ _ _ => False) k :=
  ⟨c.room, c.gd, fun u s' ⟨a, B, sI, pins, σ, H, cls, d, e, I, nb, up, sky, na, os, ag, w⟩ => w.elim, fun _ _ _ _ _ z _ => z⟩
section
variable {X : Cx} {tg elt c0 iter : Expr} {ifs : List Expr} {scope : Scope} {own : List (Str × Nat)} {σ : St} {H H1 : Hp} {Q : VK} {D : Ends} {pos spos py : Pos} {xs : List V} {q : Addr} {wi : TI} {tt : TT} {te : TE} {vs : List Nat}
/-- a block's turn as seen from within -/
def InB (X : Cx) (scope : Scope) (p : Cx → Prop) : Prop := ∀ (s : Shared) (H : Hp) (C : Addr) (cl : List (Str × Addr)) (fp : List Addr), p (X.blk s H scope (compEnvC scope cl C X.env) fp)
def gB (X : Cx) (scope : Scope) (tg : Expr) : TG := fun v σ H1 R1 => InB X scope fun Y => tWG Y tg v σ H1 R1
def eB (X : Cx) (scope : Scope) (e : Expr) : TE := fun σ H1 Q1 => InB X scope fun Y => tWE Y e σ H1 Q1
def tB (X : Cx) (scope : Scope) (e : Expr) : TT := fun σ H1 Q1 => InB X scope fun Y => tWT Y e σ H1 Q1
theorem gB_ok (s : Shared) (H : Hp) (C : Addr) (cl : List (Str × Addr)) (fp : List Addr) : PG (X.blk s H scope (compEnvC scope cl C X.env) fp) tg (gB X scope tg) :=
  ⟨fun pins s' σ H' v u R I r h => pg_W.run pins s' σ H' v u R I r (h s H C cl fp)⟩
theorem eB_ok {e : Expr} (s : Shared) (H : Hp) (C : Addr) (cl : List (Str × Addr)) (fp : List Addr) : PE (X.blk s H scope (compEnvC scope cl C X.env) fp) e (eB X scope e) :=
  ⟨fun pins s' σ H' Q I h => pe_W.run pins s' σ H' Q I (h s H C cl fp)⟩
theorem tB_ok {e : Expr} (s : Shared) (H : Hp) (C : Addr) (cl : List (Str × Addr)) (fp : List Addr) : PT (X.blk s H scope (compEnvC scope cl C X.env) fp) e (tB X scope e) :=
  ⟨fun pins s' σ H' Q I h => pt_W.run pins s' σ H' Q I (h s H C cl fp)⟩
abbrev Stp := St → Hp → (Option V → Hp → Prop) → Prop
/-- the turn behind its target: the item, or none where the test says no -/
def St0 (X : Cx) (scope : Scope) (e : Expr) : Stp := fun σ H R => InB X scope fun Y => WE Y e σ H fun y H' => R (some y) H'
def St1 (X : Cx) (scope : Scope) (c e : Expr) : Stp := fun σ H R => InB X scope fun Y => WT Y c σ H fun b H' => if b = true then St0 X scope e σ H' R else R none H'
def StOk (st : Stp) (tt : TT) (te : TE) : Prop := ∀ σ H R, st σ H R → ∀ H1, Ex H H1 → ∀ G : Option V → Hp → Prop, (∀ oy H', (∃ H2, Ex H2 H' ∧ R oy H2) → G oy H') → tt σ H1 fun b H3 => if b = true then te σ H3 fun y H4 => G (some y) H4 else G none H3
theorem st0_ok : StOk (St0 X scope elt) tYes (eB X scope elt) := fun σ H R h H1 x G k => by
  show if true = true then eB X scope elt σ H1 (fun y H4 => G (some y) H4) else G none H1
  rw [if_pos rfl]
  exact fun s H C cl fp => (h s H C cl fp).t x fun _ _ q => k _ _ q
theorem st1_ok : StOk (St1 X scope c0 elt) (tB X scope c0) (eB X scope elt) := fun σ H R h H1 x G k s H0 C cl fp => (h s H0 C cl fp).t x fun b H2 ⟨H3, x3, q⟩ => by
  cases b with
  | true =>
    rw [if_pos rfl] at q
    exact iteT fun s H C cl fp => (q s H C cl fp).t x3 fun _ _ q => k _ _ q
  | false => exact iteF (k _ _ ⟨H3, x3, by simpa using q⟩)
/-- what a comprehension asks, its iterator wi -/
def WL (X : Cx) (scope : Scope) (wi : TI) (tg : Expr) (tt : TT) (te : TE) (vs : List Nat) (σ : St) (H : Hp) (Q : VK) : Prop := ∀ H1, Ex H H1 → tLc wi (gB X scope tg) tt te vs σ H1 (up Q)
theorem we_lc0 (wl : WL X scope wi tg tYes (eB X scope elt) (own.map (·.2)) σ H Q) (hi : PI X tg iter wi) (hN : X.N.Nodup) (ok : blkC X.N X.env.scope scope own = true) (hc : X.calm = true := by rfl) (hs : ∀ x, foldedSetIterable iter X.env x = pure x := by intro _; rfl) :
    WE X (.ListComp elt [⟨tg, iter, [], 0⟩] scope pos) σ H Q := .of (pe_lc hc hN hi (blkOk_by ok) gB_ok (fun _ _ _ _ _ => pts_nil) eB_ok hs) wl
theorem we_lc1 (wl : WL X scope wi tg (tB X scope c0) (eB X scope elt) (own.map (·.2)) σ H Q) (hi : PI X tg iter wi) (hN : X.N.Nodup) (ok : blkC X.N X.env.scope scope own = true) (hc : X.calm = true := by rfl) (hs : ∀ x, foldedSetIterable iter X.env x = pure x := by intro _; rfl) :
    WE X (.ListComp elt [⟨tg, iter, [c0], 0⟩] scope pos) σ H Q := .of (pe_lc hc hN hi (blkOk_by ok) gB_ok (fun s H C cl fp => pts_one (tB_ok s H C cl fp)) eB_ok hs) wl
/-- name = [..] -/
theorem ws_lc0 {i : Nat} {y : Str} (wl : WL X scope wi tg tYes (eB X scope elt) (own.map (·.2)) σ H fun x H1 => D.nx (σ.set i (some x)) H1) (hi : PI X tg iter wi) (hN : X.N.Nodup) (hy : X.N[i]? = some y) (ok : blkC X.N X.env.scope scope own = true) (hyl : X.env.scope.names.lookup y = some .local := by rfl)
    (hsw : swapsWith (.ListComp elt [⟨tg, iter, [], 0⟩] scope pos) (some (.Name y py)) spos.line X.env = pure true := by rfl) (hc : X.calm = true := by rfl) (hs : ∀ x, foldedSetIterable iter X.env x = pure x := by intro _; rfl) :
    WS X (.Assign [.Name y py] (.ListComp elt [⟨tg, iter, [], 0⟩] scope pos) spos) D σ H :=
  .of (ps_setLc hc hN hy hyl hsw hi (blkOk_by ok) gB_ok (fun _ _ _ _ _ => pts_nil) eB_ok hs) fun H1 x => wl H1 x
theorem ws_lc1 {i : Nat} {y : Str} (wl : WL X scope wi tg (tB X scope c0) (eB X scope elt) (own.map (·.2)) σ H fun x H1 => D.nx (σ.set i (some x)) H1) (hi : PI X tg iter wi) (hN : X.N.Nodup) (hy : X.N[i]? = some y) (ok : blkC X.N X.env.scope scope own = true) (hyl : X.env.scope.names.lookup y = some .local := by rfl)
    (hsw : swapsWith (.ListComp elt [⟨tg, iter, [c0], 0⟩] scope pos) (some (.Name y py)) spos.line X.env = pure true := by rfl) (hc : X.calm = true := by rfl) (hs : ∀ x, foldedSetIterable iter X.env x = pure x := by intro _; rfl) :
    WS X (.Assign [.Name y py] (.ListComp elt [⟨tg, iter, [c0], 0⟩] scope pos) spos) D σ H :=
  .of (ps_setLc hc hN hy hyl hsw hi (blkOk_by ok) gB_ok (fun s H C cl fp => pts_one (tB_ok s H C cl fp)) eB_ok hs) fun H1 x => wl H1 x

/-- the list so far -/
def addTo (acc : List V) : Option V → List V
  | some y => acc ++ [y]
  | none => acc
/-- one turn, the heap of the turn forgotten -/
def Turn (X : Cx) (scope : Scope) (tg : Expr) (st : Stp) (vs : List Nat) (σ : St) (H : Hp) (x : V) (acc : List V) (Nx : List V → Prop) : Prop :=
  ∀ d, H d = none → InB X scope fun Y => WG Y tg x (wipe σ vs) (upd H d (.lst acc)) fun σ2 H2 => wipe σ2 vs = wipe σ vs ∧ st σ2 H2 fun oy H3 => Ex (upd H d (.lst acc)) H3 ∧ Nx (addTo acc oy)
theorem Turn.run {st : Stp} (ok : StOk st tt te) {x : V} {acc : List V} {Nx : List V → Prop} (t : Turn X scope tg st vs σ H x acc Nx) {d : Addr} (hd : H d = none) (hz : acc.length < 100000) {H4 : Hp} (x4 : Ex (upd H d (.lst acc)) H4) {G : Hp → Prop}
    (k : ∀ acc' H5, acc'.length ≤ acc.length + 1 → Nx acc' → Ex (upd H d (.lst acc')) H5 → G H5) :
    gB X scope tg x (wipe σ vs) H4 fun σ2 H2 => wipe σ2 vs = wipe σ vs ∧ tt σ2 H2 fun b H3 => if b = true then te σ2 H3 fun y H5 => ∃ acc, H5 d = some (.lst acc) ∧ acc.length < sizeLine ∧ G (upd H5 d (.lst (acc ++ [y]))) else G H3 := fun s H0 C cl fp =>
  (t d hd s H0 C cl fp).t x4 fun σ2 H2 ⟨H3, x3, e, w⟩ => ⟨e, by
    refine ok σ2 H3 _ w H2 x3 (fun oy H5 => match oy with | some y => ∃ acc, H5 d = some (.lst acc) ∧ acc.length < sizeLine ∧ G (upd H5 d (.lst (acc ++ [y]))) | none => G H5) fun oy H5 ⟨H6, x6, x7, n⟩ => ?_
    cases oy with
    | some y =>
      refine ⟨acc, (x7.trans x6) _ _ upd_same, Nat.lt_trans hz (by decide), k (acc ++ [y]) _ (by simp) n ?_⟩
      have z := (x7.trans x6).set d (.lst (acc ++ [y]))
      rw [upd_upd] at z
      exact z
    | none => exact k acc H5 (Nat.le_succ _) n (x7.trans x6)⟩
/-- over a list -/
theorem wl_list {st : Stp} (ok : StOk st tt te) (hl : EV X iter σ H (.ref q)) (hx : SqL X.K H q xs) (hn : xs.length ≤ 100000) (Pv : Nat → List V → Prop) (h0 : Pv 0 []) (turn : ∀ i x acc, xs[i]? = some x → Pv i acc → Turn X scope tg st vs σ H x acc (Pv (i + 1)))
    (done : ∀ ys p, Pv xs.length ys → ys.length ≤ xs.length → H p = none → Q (.ref p) (upd H p (.lst ys))) : WL X scope (iList X.K (tWE X iter)) tg tt te vs σ H Q := fun H1 x =>
  (hl.we (Q := fun v H' => v = .ref q ∧ H' = H) ⟨rfl, rfl⟩).t x fun o H2 ⟨H2', x2, eo, eH⟩ => by
    subst eo; subst eH
    refine ⟨q, rfl, ⟨xs, x2.sqL hx⟩, fun D hD => lc_list (K := X.K) (a := q) (xs := xs) (fun i H4 => ∃ acc, acc.length ≤ i ∧ Pv i acc ∧ Ex (upd H2' D (.lst acc)) H4) ⟨[], Nat.le_refl _, h0, x2.set D _⟩ (fun i H4 hi ⟨acc, _, _, x4⟩ => x4.sqL ((Ex.put (x2.free hD)).sqL hx)) (fun i y H4 hi ⟨acc, ha, p, x4⟩ => ?_) fun H4 ⟨acc, ha, p, x4⟩ => ⟨_, x4, done acc D p ha (x2.free hD)⟩⟩
    have hlt : i < xs.length := (List.getElem?_eq_some_iff.mp hi).1
    exact (turn i y acc hi p).run ok (x2.free hD) (by omega) x4 fun acc' H5 hl n x5 => ⟨acc', by omega, n, x5⟩
theorem wl_tup {st : Stp} (ok : StOk st tt te) (hl : EV X iter σ H (.ref q)) (hx : SqT X.K H q xs) (hn : xs.length ≤ 100000) (Pv : Nat → List V → Prop) (h0 : Pv 0 []) (turn : ∀ i x acc, xs[i]? = some x → Pv i acc → Turn X scope tg st vs σ H x acc (Pv (i + 1)))
    (done : ∀ ys p, Pv xs.length ys → ys.length ≤ xs.length → H p = none → Q (.ref p) (upd H p (.lst ys))) : WL X scope (iTup X.K (tWE X iter)) tg tt te vs σ H Q := fun H1 x =>
  (hl.we (Q := fun v H' => v = .ref q ∧ H' = H) ⟨rfl, rfl⟩).t x fun o H2 ⟨H2', x2, eo, eH⟩ => by
    subst eo; subst eH
    refine ⟨q, rfl, ⟨xs, x2.sqT hx⟩, fun D hD => lc_tup (K := X.K) (a := q) (xs := xs) (fun i H4 => ∃ acc, acc.length ≤ i ∧ Pv i acc ∧ Ex (upd H2' D (.lst acc)) H4) ⟨[], Nat.le_refl _, h0, x2.set D _⟩ (fun i H4 hi ⟨acc, _, _, x4⟩ => x4.sqT ((Ex.put (x2.free hD)).sqT hx)) (fun i y H4 hi ⟨acc, ha, p, x4⟩ => ?_) fun H4 ⟨acc, ha, p, x4⟩ => ⟨_, x4, done acc D p ha (x2.free hD)⟩⟩
    have hlt : i < xs.length := (List.getElem?_eq_some_iff.mp hi).1
    exact (turn i y acc hi p).run ok (x2.free hD) (by omega) x4 fun acc' H5 hl n x5 => ⟨acc', by omega, n, x5⟩
/-- over range(n) -/
theorem wl_rng {st : Stp} {a : Expr} {n : Int} (ok : StOk st tt te) (ha : EA X [a] σ H [.int n]) (hn : n ≤ 100000) (hn0 : -1000000 ≤ n) (Pv : Nat → List V → Prop) (h0 : Pv 0 []) (turn : ∀ (i : Nat) acc, (i : Int) < n → Pv i acc → Turn X scope tg st vs σ H (.int i) acc (Pv (i + 1)))
    (done : ∀ ys p, Pv n.toNat ys → ys.length ≤ n.toNat → H p = none → Q (.ref p) (upd H p (.lst ys))) : WL X scope (iRng1 (tWA X [a])) tg tt te vs σ H Q := fun H1 x =>
  (ha.wa (QA := fun v H' => v = [.int n] ∧ H' = H) ⟨rfl, rfl⟩).t x fun o H2 ⟨H2', x2, eo, eH⟩ => by
    subst eo; subst eH
    refine ⟨n, rfl, by omega, by omega, fun D hD => lc_range (lo := 0) (n := n.toNat) (fun i H4 => ∃ acc, acc.length ≤ i ∧ Pv i acc ∧ Ex (upd H2' D (.lst acc)) H4) ⟨[], Nat.le_refl _, h0, x2.set D _⟩ (fun i H4 hi ⟨acc, ha, p, x4⟩ => ?_) fun H4 ⟨acc, ha, p, x4⟩ => ⟨_, x4, done acc D p ha (x2.free hD)⟩⟩
    rw [Int.zero_add]
    exact (turn i acc (by omega) p).run ok (x2.free hD) (by omega) x4 fun acc' H5 hl n x5 => ⟨acc', by omega, n, x5⟩
theorem wl_rng2 {st : Stp} {a b : Expr} {l n : Int} (ok : StOk st tt te) (ha : EA X [a, b] σ H [.int l, .int n]) (hn : n - l ≤ 100000) (hb : -(2 ^ 62) ≤ l ∧ l < 2 ^ 62 ∧ -(2 ^ 62) ≤ n ∧ n < 2 ^ 62) (Pv : Nat → List V → Prop) (h0 : Pv 0 []) (turn : ∀ (i : Nat) acc, l + (i : Int) < n → Pv i acc → Turn X scope tg st vs σ H (.int (l + i)) acc (Pv (i + 1)))
    (done : ∀ ys p, Pv (n - l).toNat ys → ys.length ≤ (n - l).toNat → H p = none → Q (.ref p) (upd H p (.lst ys))) : WL X scope (iRng2 (tWA X [a, b])) tg tt te vs σ H Q := fun H1 x =>
  (ha.wa (QA := fun v H' => v = [.int l, .int n] ∧ H' = H) ⟨rfl, rfl⟩).t x fun o H2 ⟨H2', x2, eo, eH⟩ => by
    subst eo; subst eH
    refine ⟨l, n, rfl, hb, fun D hD => lc_range (lo := l) (n := (n - l).toNat) (fun i H4 => ∃ acc, acc.length ≤ i ∧ Pv i acc ∧ Ex (upd H2' D (.lst acc)) H4) ⟨[], Nat.le_refl _, h0, x2.set D _⟩ (fun i H4 hi ⟨acc, ha, p, x4⟩ => ?_) fun H4 ⟨acc, ha, p, x4⟩ => ⟨_, x4, done acc D p ha (x2.free hD)⟩⟩
    exact (turn i acc (by omega) p).run ok (x2.free hD) (by omega) x4 fun acc' H5 hl n x5 => ⟨acc', by omega, n, x5⟩
end
/-! ## repr of data -/
mutual
def fits : PyData → Prop
  | .none => True
  | .bool _ => True
  | .int i => i.natAbs < 10 ^ 120
  | .str x => ∀ c ∈ x.cps.toList, c < 4294967296
  | .list xs => fitsAll xs
  | .tuple xs => fitsAll xs
  | .dict _ => False
def fitsAll : List PyData → Prop
  | [] => True
  | x :: xs => fits x ∧ fitsAll xs
end
theorem int_shown {i : Int} (h : i.natAbs < 10 ^ 120) : (PyData.shown (.int i)).length ≤ 130 := by
  have e := int_text_length_le10 (k := 120) (by decide) h
  show (Str.ofString (toString i)).length ≤ 130
  rw [PySem.ofString_length]
  omega
theorem int_log {i : Int} (h : i.natAbs < 10 ^ 120) : i.natAbs.log2 < 1920 := by
  by_cases z : i.natAbs = 0
  · rw [z]; decide
  · exact (Nat.log2_lt z).mpr (Nat.lt_of_lt_of_le h (by decide +kernel))
mutual
theorem fits.short : ∀ d : PyData, fits d → d.leavesShort 130 = true ∧ d.showable = true ∧ d.hasDict = false
  | .none, _ => ⟨by simp only [PyData.leavesShort], by simp only [PyData.showable], by simp only [PyData.hasDict]⟩
  | .bool _, _ => ⟨by simp only [PyData.leavesShort], by simp only [PyData.showable], by simp only [PyData.hasDict]⟩
  | .int i, h => by
    have h : i.natAbs < 10 ^ 120 := by simpa only [fits] using h
    exact ⟨by simp only [PyData.leavesShort]; exact decide_eq_true (int_shown h), by simp only [PyData.showable]; exact decide_eq_true (int_log h), by simp only [PyData.hasDict]⟩
  | .str x, h => by
    have h : ∀ c ∈ x.cps.toList, c < 4294967296 := by simpa only [fits] using h
    exact ⟨by simp only [PyData.leavesShort, List.all_eq_true, decide_eq_true_eq]; exact h, by simp only [PyData.showable], by simp only [PyData.hasDict]⟩
  | .list xs, h => by
    have q := fitsAll.short xs (by simpa only [fits] using h)
    exact ⟨by simp only [PyData.leavesShort]; exact q.1, by simp only [PyData.showable]; exact q.2.1, by simp only [PyData.hasDict]; exact q.2.2⟩
  | .tuple xs, h => by
    have q := fitsAll.short xs (by simpa only [fits] using h)
    exact ⟨by simp only [PyData.leavesShort]; exact q.1, by simp only [PyData.showable]; exact q.2.1, by simp only [PyData.hasDict]; exact q.2.2⟩
  | .dict _, h => by simp only [fits] at h
theorem fitsAll.short : ∀ ds : List PyData, fitsAll ds → PyData.leavesShortAll 130 ds = true ∧ PyData.showableAll ds = true ∧ PyData.hasDictAll ds = false
  | [], _ => ⟨by simp only [PyData.leavesShortAll], by simp only [PyData.showableAll], by simp only [PyData.hasDictAll]⟩
  | d :: ds, h => by
    have h : fits d ∧ fitsAll ds := by simpa only [fitsAll] using h
    have q := fits.short d h.1
    have r := fitsAll.short ds h.2
    exact ⟨by simp only [PyData.leavesShortAll, Bool.and_eq_true]; exact ⟨q.1, r.1⟩, by simp only [PyData.showableAll, Bool.and_eq_true]; exact ⟨q.2.1, r.2.1⟩, by simp only [PyData.hasDictAll, Bool.or_eq_false_iff]; exact ⟨q.2.2, r.2.2⟩⟩
end
/-- data that repr can tell -/
structure RpOk (d : PyData) : Prop where
  f : fits d
  b : d.bulk ≤ 20000
  p : d.depth ≤ 60
theorem RpOk.len {d : PyData} (h : RpOk d) : d.shown.length ≤ 2640130 := by
  have := PyData.shown_le_bulk 130 (by decide) d (fits.short d h.f).1
  have b := h.b
  omega
mutual
theorem Dp.ex {K : PySem.W.Frag} {H H' : Hp} (x : Ex H H') : ∀ {v : V} {d : PyData}, Dp K H v d → Dp K H' v d
  | _, _, .non => .non
  | _, _, .bl b => .bl b
  | _, _, .int i => .int i
  | _, _, .str y => .str y
  | _, _, .lst h a => .lst (x.sqL h) (DpAll.ex x a)
  | _, _, .tup h a => .tup (x.sqT h) (DpAll.ex x a)
theorem DpAll.ex {K : PySem.W.Frag} {H H' : Hp} (x : Ex H H') : ∀ {vs : List V} {ds : List PyData}, DpAll K H vs ds → DpAll K H' vs ds
  | _, _, .nil => .nil
  | _, _, .cons h a => .cons (Dp.ex x h) (DpAll.ex x a)
end
section
variable {X : Cx} {W : WX} {k : Nat} {H : Hp} {v : V} {d : PyData}
def rRepr (K : PySem.W.Frag) : List V → Hp → VK → Prop := fun xs H Q => ∃ v d, xs = [v] ∧ Dp K H v d ∧ RpOk d ∧ Q (.str d.shown) H
theorem call_repr (c : Cn X W k) : CallR X (.builtin "repr") (rRepr X.K) := by
  intro pins s σ H xs us Q I r h
  obtain ⟨v, d, rfl, hd, ok, q⟩ := h
  obtain ⟨u, rfl, ru⟩ := r.one
  obtain ⟨as, rd⟩ := Dp.reads I d v u hd ru
  have z := fits.short d ok.f
  have len : d.shown.length ≤ sizeLine := Nat.le_trans ok.len (by decide)
  have room : X.A.units + (d.depth + 1) < cLine := by
    have := c.room.units
    have := ok.p
    omega
  have fin : ∀ h' t tk, (∀ b o, s.heap.get? b = some o → h'.get? b = some o) → EP X pins σ Q (.str d.shown t) { s with heap := h', toks := tk } := fun h' t tk hk =>
    ⟨.str d.shown, H, I.kept (fun b o e => hk b o e), ⟨t, rfl⟩, q⟩
  cases rd with
  | none => exact PySem.P.repr_of_none (fin s.heap _ _ fun _ _ e => e)
  | bool b => exact PySem.P.repr_of_bool (fin s.heap _ _ fun _ _ e => e)
  | int i t => exact PySem.P.repr_of_int (by simpa [PyData.showable] using z.2.1) (fin s.heap _ _ fun _ _ e => e)
  | str x t => exact PySem.P.repr_of_str (fin s.heap _ _ fun _ _ e => e) (by simpa only [PyData.shown] using len)
  | list h1 h2 h3 h4 => exact repr_of_reads' (.list h1 h2 h3 h4) z.2.1 (PyData.noDict_hsm z.2.2) c.gd room (fun _ _ e => e) fin len
  | tuple h1 h2 h3 h4 => exact repr_of_reads' (.tuple h1 h2 h3 h4) z.2.1 (PyData.noDict_hsm z.2.2) c.gd room (fun _ _ e => e) fin len
  | dict h1 h2 h3 h4 h5 => cases hd
theorem ec_repr (c : Cn X W k) (hd : Dp X.K H v d) (ok : RpOk d) : EC X (.builtin "repr") [v] H (.str d.shown) := ec_of (call_repr c) fun _ x _ q => ⟨v, d, rfl, Dp.ex x hd, ok, q⟩
end

/-! ## methods of lists, + -/
section
variable {X : Cx} {W : WX} {o e : Expr} {es : List Expr} {σ : St} {H : Hp} {Q : VK} {apos cpos : Pos} {l b : Addr} {xs zs : List V} {y : V}
theorem tyL {K : PySem.W.Frag} {H : Hp} {l : Addr} {xs : List V} (h : SqL K H l xs) : tyV K "list" (.ref l) H := .inl ⟨rfl, xs, h⟩
/-- o.append(e): the list may have changed while e was worked out -/
theorem we_append (ho : EV X o σ H (.ref l)) (hl : H l = some (.lst xs)) (he : WE X e σ H fun y H2 => ∃ ys, H2 l = some (.lst ys) ∧ ys.length ≤ 100000 ∧ Q .non (upd H2 l (.lst (ys ++ [y]))))
    (hbase : attributeBase o "append" X.env (eval o X.env) = eval o X.env := by rfl)
    (hfew : ((backTo cpos (starEach [e] X.env)).all (fun x => !x.1) && (backToKw cpos (keywordEach [] X.env)).all (fun x => x.1.isSome)
      && decide ([e].length + ([] : List Keyword).length + (if ([] : List Keyword).isEmpty then 0 else 1) < 30)) = true := by rfl)
    (hline : (apos.endLine == cpos.line) = true := by rfl) (hs : starEach [e] X.env = (false, eval e X.env) :: starEach [] X.env := by rfl) (hplain : (backTo cpos (starEach [] X.env)).any (·.1) = false := by rfl) :
    WE X (.Call (.Attribute o "append" apos) [e] [] cpos) σ H Q :=
  .of (pe_bm PySem.F.plainAttrs_list PySem.F.slot_list_append PySem.F.type_list_append mt_append pe_W (pa_cons pe_W pa_nil hs) hbase hfew hline hs hplain) fun H1 x =>
    (ho.we (Q := fun v H' => v = .ref l ∧ H' = H) ⟨rfl, rfl⟩).t x fun v H2 ⟨H3, x3, ev, eH⟩ => by
      subst ev; subst eH
      refine ⟨tyL (.inl (.inl (x3 _ _ hl))), he.t x3 fun y H4 ⟨H5, x5, ys, hy, hz, q⟩ => ⟨l, ys, y, rfl, rfl, x5 _ _ hy, Nat.lt_of_le_of_lt hz (by decide), _, x5.set l _, q⟩⟩
/-- o.extend(e) -/
theorem we_extend (ho : EV X o σ H (.ref l)) (hl : H l = some (.lst xs)) (he : WE X e σ H fun y H2 => ∃ b ys zs, y = .ref b ∧ H2 l = some (.lst ys) ∧ H2 b = some (.lst zs) ∧ ys.length + zs.length ≤ 1000000 ∧ Q .non (upd H2 l (.lst (ys ++ zs))))
    (hbase : attributeBase o "extend" X.env (eval o X.env) = eval o X.env := by rfl)
    (hfew : ((backTo cpos (starEach [e] X.env)).all (fun x => !x.1) && (backToKw cpos (keywordEach [] X.env)).all (fun x => x.1.isSome)
      && decide ([e].length + ([] : List Keyword).length + (if ([] : List Keyword).isEmpty then 0 else 1) < 30)) = true := by rfl)
    (hline : (apos.endLine == cpos.line) = true := by rfl) (hs : starEach [e] X.env = (false, eval e X.env) :: starEach [] X.env := by rfl) (hplain : (backTo cpos (starEach [] X.env)).any (·.1) = false := by rfl) :
    WE X (.Call (.Attribute o "extend" apos) [e] [] cpos) σ H Q :=
  .of (pe_bm PySem.F.plainAttrs_list PySem.F.slot_list_extend PySem.F.type_list_extend mt_extend pe_W (pa_cons pe_W pa_nil hs) hbase hfew hline hs hplain) fun H1 x =>
    (ho.we (Q := fun v H' => v = .ref l ∧ H' = H) ⟨rfl, rfl⟩).t x fun v H2 ⟨H3, x3, ev, eH⟩ => by
      subst ev; subst eH
      refine ⟨tyL (.inl (.inl (x3 _ _ hl))), he.t x3 fun y H4 ⟨H5, x5, b, ys, zs, ey, hy, hb, hz, q⟩ => ⟨l, b, ys, zs, rfl, by rw [ey], x5 _ _ hy, x5 _ _ hb, Nat.le_trans hz (by decide), _, x5.set l _, q⟩⟩
/-- the sum of two lists is a new list -/
theorem wo_cat (h1 : H l = some (.lst xs)) (h2 : H b = some (.lst zs)) (hz : xs.length + zs.length ≤ 1000000) (q : ∀ p, H p = none → Q (.ref p) (upd H p (.lst (xs ++ zs)))) : WO X (binaryOp .Add) (.ref l) (.ref b) H Q :=
  .of op_cat fun H1 x => ⟨l, b, xs, zs, rfl, rfl, x _ _ h1, x _ _ h2, Nat.le_trans hz (by decide), fun p hp => ⟨_, x.set p _, q p (x.free hp)⟩⟩
theorem ec_intB {k : Bool} : EC X (.type "int") [.bl k] H (.int (if k = true then 1 else 0)) := ec_of call_int1 fun _ _ _ q => .inr ⟨k, rfl, q⟩
theorem ec_intI {i : Int} : EC X (.type "int") [.int i] H (.int i) := ec_of call_int1 fun _ _ _ q => .inl ⟨i, rfl, q⟩
section
variable {D : Ends} {i j l : Nat} {x y z : Str} {a b c : Expr} {px py pz pt pos : Pos} {kt k2 pt2}
/-- a, b = x, y -/
theorem ws_par (hN : X.N.Nodup) (hi : X.N[i]? = some x) (hj : X.N[j]? = some y) (ha : WA X [a, b] σ H fun vs H1 => ∃ v w, vs = [v, w] ∧ D.nx ((σ.set i (some v)).set j (some w)) H1) (hij : i ≠ j := by decide) (hc : X.calm = true := by rfl)
    (hx : X.env.scope.names.lookup x = some .local := by rfl) (hy : X.env.scope.names.lookup y = some .local := by rfl)
    (hw : swappedStores [.Tuple [.Name x px, .Name y py] kt pt] (.Tuple [a, b] k2 pt2) X.env = pure (some [x, y]) := by rfl)
    (hs : swapsWithSole [.Tuple [.Name x px, .Name y py] kt pt] (.Tuple [a, b] k2 pt2) pos.line X.env = pure false := by rfl) :
    WS X (.Assign [.Tuple [.Name x px, .Name y py] kt pt] (.Tuple [a, b] k2 pt2) pos) D σ H :=
  .of (ps_par hc hN hi hj hij hx hy pa_W hw hs) fun H1 x1 => ha.t x1 fun vs H2 ⟨H3, x3, v, w, e, q⟩ => ⟨v, w, e, H3, x3, q⟩
theorem ws_par3 (hN : X.N.Nodup) (hi : X.N[i]? = some x) (hj : X.N[j]? = some y) (hl : X.N[l]? = some z) (ha : WA X [a, b, c] σ H fun vs H1 => ∃ u v w, vs = [u, v, w] ∧ D.nx (((σ.set i (some u)).set j (some v)).set l (some w)) H1)
    (hij : i ≠ j := by decide) (hil : i ≠ l := by decide) (hjl : j ≠ l := by decide) (hc : X.calm = true := by rfl)
    (hx : X.env.scope.names.lookup x = some .local := by rfl) (hy : X.env.scope.names.lookup y = some .local := by rfl) (hz : X.env.scope.names.lookup z = some .local := by rfl)
    (hw : swappedStores [.Tuple [.Name x px, .Name y py, .Name z pz] kt pt] (.Tuple [a, b, c] k2 pt2) X.env = pure (some [x, y, z]) := by rfl)
    (hs : swapsWithSole [.Tuple [.Name x px, .Name y py, .Name z pz] kt pt] (.Tuple [a, b, c] k2 pt2) pos.line X.env = pure false := by rfl) :
    WS X (.Assign [.Tuple [.Name x px, .Name y py, .Name z pz] kt pt] (.Tuple [a, b, c] k2 pt2) pos) D σ H :=
  .of (ps_par3 hc hN hi hj hl hij hil hjl hx hy hz pa_W hw hs) fun H1 x1 => ha.t x1 fun vs H2 ⟨H3, x3, u, v, w, e, q⟩ => ⟨u, v, w, e, H3, x3, q⟩
end
end
/-! ## sum of bools -/
def b2n (b : Bool) : Int := if b then 1 else 0
theorem b2n_le (b : Bool) : 0 ≤ b2n b ∧ b2n b ≤ 1 := by cases b <;> decide
theorem pre_bools (vl : Nat → Int) (h : ∀ j, 0 ≤ vl j ∧ vl j ≤ 1) : ∀ j : Nat, 0 ≤ preSum vl j ∧ preSum vl j ≤ j
  | 0 => by simp [preSum]
  | j + 1 => by
    have a := pre_bools vl h j
    have b := h j
    simp only [preSum]
    omega
section
variable {prog : Program} {w : World} {A : Around} {R : Result → Shared → Prop} {it : Addr} {fp wr : List Addr} {n : Nat} {P : Nat → Value → Prop} {St : Nat → Heap → Prop}
theorem sumB_loop (Wk : Walks prog w A.in1 it fp wr n P St) (vl : Nat → Int) (h01 : ∀ j, 0 ≤ vl j ∧ vl j ≤ 1) (hn : n ≤ 1000000) (hv : ∀ i v, P i v → ∃ b, v = .bool b ∧ vl i = b2n b) (S : Addr) (hS0 : S ∉ fp) :
    ∀ (k i : Nat) (s : Shared) (ta : Tok) (m : Nat), n - i = k → i ≤ n → St i s.heap → s.heap.get? S = some { cls := .type "list", data := .seq #[.int (preSum vl i) ta] m } →
    (∀ h' tk t', (∀ b o, b ∉ wr → b ≠ S → s.heap.get? b = some o → h'.get? b = some o) → R (.ok (.ret (.int (preSum vl n) t'))) { s with heap := h', toks := tk }) →
    codeAny (model prog w) A (.builtin "sum.loop" ⟨[.ref it, .ref S, rawInt 0, rawInt 0], []⟩) R s := by
  have hw : S ∉ wr := fun z => hS0 (Wk.sub _ z)
  intro k
  induction k with
  | zero =>
    intro i s ta m hk hi hst hs hR
    obtain rfl : i = n := by omega
    refine codeAny_builtin F.entry_sum_loop ?_
    rw [Around.under_plainId F.plain_sum_loop _]
    refine wpAny_bind (wpAny_seqItems hs rfl ?_)
    exact wpAny_bind (wpAny_tryCatch (Wk.done s _ _ hst fun h' tk kp => wpAny_pure (hR h' tk ta fun b o nb _ e => kp b o nb e)))
  | succ k ih =>
    intro i s ta m hk hi hst hs hR
    have lt : i < n := by omega
    refine codeAny_builtin F.entry_sum_loop ?_
    rw [Around.under_plainId F.plain_sum_loop _]
    refine wpAny_bind (wpAny_seqItems hs rfl ?_)
    refine wpAny_bind (wpAny_tryCatch (Wk.item i s _ _ lt hst fun v h' tk hp hst' kp => ?_))
    obtain ⟨b, rfl, eb⟩ := hv i v hp
    have hs' := kp S _ hw hs
    have q1 := pre_bools vl h01 i
    have q2 := h01 i
    cases b
    · have eb : vl i = 0 := eb
      have e1 : preSum vl i + 0 = preSum vl (i + 1) := by simp only [preSum]; rw [eb]
      have fit : ((decide (-(2 ^ 63) ≤ (0 : Int)) && decide ((0 : Int) < 2 ^ 63)) && (decide (-(2 ^ 63) ≤ preSum vl i + 0) && decide (preSum vl i + 0 < 2 ^ 63))) = true := by
        simp only [Bool.and_eq_true, decide_eq_true_eq]
        omega
      show wpAny _ A.in1 (if (_ : Bool) = true then (mkInt (preSum vl i + 0) >>= _) else _) _ _ _
      split
      · rename_i z
        exact absurd z (by decide)
      split
      · refine wpAny_bind (wpAny_mkInt ?_)
        show wpAny _ A.in1 (updateSeq S (fun _ => #[.int (preSum vl i + 0) tk]) >>= _) _ _ _
        rw [e1]
        refine wpAny_bind (wpAny_updateSeq hs' rfl (wpAny_pure ⟨plainId_quiet F.plain_sum_loop _, ih (i + 1) _ tk _ (by omega) lt (Wk.frame _ _ _ hst' fun b hb o e => ?_) (Heap.get?_update_self _ hs' rfl) fun h2 tk2 t2 kp2 => ?_⟩))
        · exact (Heap.get?_update_other _ _ (fun z : S = b => hS0 (by rw [z]; exact hb))).trans e
        · exact hR h2 tk2 t2 fun b o nb ns e => kp2 b o nb ns ((Heap.get?_update_other _ _ (Ne.symm ns)).trans (kp b o nb e))
      · rename_i no
        exact absurd fit no
    · have eb : vl i = 1 := eb
      have e1 : preSum vl i + 1 = preSum vl (i + 1) := by simp only [preSum]; rw [eb]
      have fit : ((decide (-(2 ^ 63) ≤ (1 : Int)) && decide ((1 : Int) < 2 ^ 63)) && (decide (-(2 ^ 63) ≤ preSum vl i + 1) && decide (preSum vl i + 1 < 2 ^ 63))) = true := by
        simp only [Bool.and_eq_true, decide_eq_true_eq]
        omega
      show wpAny _ A.in1 (if (_ : Bool) = true then (mkInt (preSum vl i + 1) >>= _) else _) _ _ _
      split
      case isFalse z => exact absurd rfl z
      split
      · refine wpAny_bind (wpAny_mkInt ?_)
        show wpAny _ A.in1 (updateSeq S (fun _ => #[.int (preSum vl i + 1) tk]) >>= _) _ _ _
        rw [e1]
        refine wpAny_bind (wpAny_updateSeq hs' rfl (wpAny_pure ⟨plainId_quiet F.plain_sum_loop _, ih (i + 1) _ tk _ (by omega) lt (Wk.frame _ _ _ hst' fun b hb o e => ?_) (Heap.get?_update_self _ hs' rfl) fun h2 tk2 t2 kp2 => ?_⟩))
        · exact (Heap.get?_update_other _ _ (fun z : S = b => hS0 (by rw [z]; exact hb))).trans e
        · exact hR h2 tk2 t2 fun b o nb ns e => kp2 b o nb ns ((Heap.get?_update_other _ _ (Ne.symm ns)).trans (kp b o nb e))
      · rename_i no
        exact absurd fit no
end
section
variable {prog : Program} {w : World} {A : Around} {E : Value → Shared → Prop} {s : Shared} {l : Addr} {bs : List Bool} {Q : Value → Shared → Prop}
theorem sum_vals (bs : List Bool) : preSum (fun i => b2n (bs.getD i false)) bs.length = (bs.map b2n).sum := by
  have key : ∀ (m : Nat) (bs : List Bool), bs.length = m → ∀ f : Nat → Int, (∀ i, i < m → f i = b2n (bs.getD i false)) → preSum f m = (bs.map b2n).sum := by
    intro m
    induction m with
    | zero =>
      intro bs hl f h
      rw [List.length_eq_zero_iff.mp hl]
      rfl
    | succ m ih =>
      intro bs hl f h
      have hne : bs ≠ [] := fun z => by rw [z] at hl; cases hl
      obtain ⟨cs, c, rfl⟩ : ∃ cs c, bs = cs ++ [c] := ⟨bs.dropLast, bs.getLast hne, (List.dropLast_concat_getLast hne).symm⟩
      have hl : cs.length = m := by simpa using hl
      rw [List.map_append, List.sum_append]
      simp only [preSum]
      rw [ih cs hl f fun i hi => by rw [h i (by omega)]; simp [List.getD_eq_getElem?_getD, List.getElem?_append_left (show i < cs.length by omega)]]
      rw [h m (by omega), ← hl]
      simp [List.getD_eq_getElem?_getD]
  exact key _ bs rfl _ fun _ _ => rfl
theorem sumB_call (hh : A.handled = none) (hl : s.heap.IsList l (bs.map Value.bool).toArray) (hn : bs.length ≤ 1000000)
    (h : ∀ h' tk t', (∀ b o, s.heap.get? b = some o → h'.get? b = some o) → Q (.int (bs.map b2n).sum t') { s with heap := h', toks := tk }) : wpAny (model prog w) A (call (.builtin "sum") [.ref l]) Q E s := by
  refine call_function_tree F.kind_sum F.plain_sum F.entry_sum (F.args_sum1 _) ?_
  unfold Builtin.«sum»
  simp only [List.length_cons, List.length_nil]
  rw [if_neg (by decide)]
  refine wpAny_bind (wpAny_of_eq (show Builtin.Builtins.bindParams "sum" ["start"] 0 { } = pure [none] from rfl) ?_)
  refine wpAny_bind (iter_any hl fun s2 e2 st ne => ?_)
  subst e2
  refine wpAny_bind (wpAny_mkInt (wpAny_bind (wpAny_pure ?_)))
  simp only [List.forIn_cons, List.forIn_nil]
  refine wpAny_bind (wpAny_bind (wpAny_bind (wpAny_isInstance (T := "int") (b := false) (typeIs_int _ _ _) PySem.sub_int_str ?_)))
  simp only [Bool.false_eq_true, if_false]
  refine wpAny_pure (wpAny_bind (wpAny_bind (wpAny_isInstance (T := "int") (b := false) (typeIs_int _ _ _) PySem.sub_int_bytes ?_)))
  simp only [Bool.false_eq_true, if_false]
  refine wpAny_pure (wpAny_bind (wpAny_bind (wpAny_isInstance (T := "int") (b := false) (typeIs_int _ _ _) PySem.sub_int_bytearray ?_)))
  simp only [Bool.false_eq_true, if_false]
  refine wpAny_pure (wpAny_pure (wpAny_bind (wpAny_newObj_type ?_)))
  have Wk := Walks.list (prog := prog) (w := w) (A := A.in1) hh s.heap.objs.size l ne (bs.map Value.bool).toArray
  have lt : l < s.heap.objs.size := by
    obtain ⟨_, e, _⟩ := hl
    exact Heap.lt_size e
  have nf : (s.heap.push { cls := .type "list_iterator", data := .fields #[.ref l, .int 0 0] }).objs.size ∉ [s.heap.objs.size, l] := by
    rw [Heap.size_push]
    simp only [List.mem_cons, List.not_mem_nil, or_false, not_or]
    exact ⟨fun z => Nat.succ_ne_self _ z, fun z => Nat.lt_irrefl _ (Nat.lt_trans (Nat.lt_succ_self _) (z ▸ lt))⟩
  refine wpAny_pure ⟨plainId_quiet F.plain_sum_loop _, sumB_loop Wk (fun i => b2n (bs.getD i false)) (fun j => b2n_le _) (by simpa using hn) (fun i v hp => ?_) _ nf _ 0 _ _ 0 rfl (Nat.zero_le _) (Wk.frame _ _ _ st fun b _ o e => Heap.get?_push_of_some _ e) (Heap.get?_push_size _ rfl) fun h' tk t' kp => ?_⟩
  · have hp : (bs.map Value.bool)[i]? = some v := by simpa using hp
    rw [List.getElem?_map] at hp
    obtain ⟨b, hb, rfl⟩ := Option.map_eq_some_iff.mp hp
    exact ⟨b, rfl, by rw [List.getD_eq_getElem?_getD, hb]; rfl⟩
  · have e : (bs.map Value.bool).toArray.size = bs.length := by simp
    rw [e, sum_vals]
    refine h h' tk t' fun b o eb => ?_
    have hb := Heap.lt_size eb
    exact kp b o (by simp only [List.mem_cons, List.not_mem_nil, or_false]; exact Nat.ne_of_lt hb) (by rw [Heap.size_push]; exact Nat.ne_of_lt (Nat.lt_succ_of_lt hb)) (Heap.get?_push_of_some _ (Heap.get?_push_of_some _ eb))
end
section
variable {X : Cx} {H : Hp} {p : Addr} {bs : List Bool}
theorem ec_sumB (h : SqL X.K H p (bs.map V.bl)) (hn : bs.length ≤ 1000000) (hc : X.calm = true := by rfl) : EC X (.builtin "sum") [.ref p] H (.int (bs.map b2n).sum) :=
  ec_of (r := fun xs H Q => ∃ p bs, xs = [V.ref p] ∧ SqL X.K H p (bs.map V.bl) ∧ bs.length ≤ 1000000 ∧ Q (.int (bs.map b2n).sum) H) (fun pins s σ H xs us Q I r ⟨p, bs, e, h, hn, q⟩ => by
    subst e
    obtain ⟨its, rv, hl, _⟩ := I.list h
    rw [Vals.ref1 r]
    have hb := rv.bls
    subst hb
    exact sumB_call (I.ok.hd hc) hl.isList hn fun h' tk t' kp => ⟨.int _, H, I.kept kp, ⟨_, rfl⟩, q⟩) fun _ e _ q => ⟨p, bs, rfl, e.sqL h, hn, q⟩
end
/-! ## plain laws of numbers -/
theorem pow_mono {n m : Nat} (h : n ≤ m) : (2 : Int) ^ n ≤ 2 ^ m := by
  have := Nat.pow_le_pow_right (n := 2) (by decide) h
  have h2 : ((2 ^ n : Nat) : Int) ≤ ((2 ^ m : Nat) : Int) := by omega
  simpa [Int.natCast_pow] using h2
theorem small_n {n : Int} (h0 : 0 ≤ n) (h : n < 1000000000000000000000000000000000000000000000000000000000000000) : n.natAbs < 2 ^ 100000 := by
  have e : (2 : Nat) ^ 240 = 1766847064778384329583297500742918515827483896875618958121606201292619776 := by decide +kernel
  refine Nat.lt_of_lt_of_le (show n.natAbs < 2 ^ 240 from ?_) (Nat.pow_le_pow_right (by decide) (by decide))
  rw [e]
  omega
def isPow (n : Int) : Bool := decide (0 < n) && decide (Builtin.bitAnd n (n - 1) = 0)
def pal (n : Int) : Int := 2 ^ Builtin.Int.intBits (if n - 1 > 0 then n - 1 else 0)
theorem pow_nat (k : Nat) : ((2 : Int) ^ k) = ((2 ^ k : Nat) : Int) := by simp [Int.natCast_pow]
theorem isPow_pow (k : Nat) : isPow ((2 : Int) ^ k) = true := by
  have hp : 0 < 2 ^ k := Nat.pow_pos (by decide)
  have e : ((2 ^ k : Nat) : Int) - 1 = ((2 ^ k - 1 : Nat) : Int) := by omega
  rw [pow_nat, isPow, e]
  have h : (2 ^ k) &&& (2 ^ k - 1) = 0 := by rw [Nat.and_two_pow_sub_one_eq_mod, Nat.mod_self]
  simp only [Builtin.bitAnd, Int.natCast_nonneg, decide_true, Int.toNat_natCast, h]
  generalize 2 ^ k = m at *
  simp; omega
theorem pal_facts {n : Int} (h0 : 0 ≤ n) : n ≤ pal n ∧ (pal n > 1 → pal n / 2 < n) := by
  unfold pal
  obtain ⟨n, rfl⟩ := Int.eq_ofNat_of_zero_le h0
  by_cases h1 : n ≤ 1
  · rw [if_neg (by omega)]
    have : Builtin.Int.intBits 0 = 0 := rfl
    rw [this]
    constructor <;> simp <;> omega
  · rw [if_pos (by omega)]
    have hz : ((n : Int) - 1) = ((n - 1 : Nat) : Int) := by omega
    rw [hz]
    have hb : Builtin.Int.intBits ((n - 1 : Nat) : Int) = (n - 1).log2 + 1 := by
      unfold Builtin.Int.intBits
      rw [if_neg (by simp; omega)]
      rfl
    rw [hb, pow_nat]
    have l1 : n - 1 < 2 ^ ((n - 1).log2 + 1) := Nat.lt_log2_self
    have l2 : 2 ^ (n - 1).log2 ≤ n - 1 := Nat.log2_self_le (by omega)
    have e : 2 ^ ((n - 1).log2 + 1) = 2 * 2 ^ (n - 1).log2 := by rw [Nat.pow_succ, Nat.mul_comm]
    have l2' : 2 ^ ((n - 1).log2 + 1) ≤ 2 * (n - 1) := by rw [e]; omega
    clear l2 e
    generalize 2 ^ ((n - 1).log2 + 1) = m at *
    constructor
    · omega
    · intro _; omega
def VerOk (v : Int) : Prop := 0 ≤ v ∧ v < 1000000000000000000000000000000000000000000000000000000000000
theorem shl_bound {d s : Int} (d0 : 0 ≤ d) (d1 : d < 1000) (s0 : 0 ≤ s) (s1 : s < 180) : 0 ≤ d * 2 ^ s.toNat ∧ d * 2 ^ s.toNat < 1000 * 2 ^ 180 := by
  obtain ⟨n, rfl⟩ := Int.eq_ofNat_of_zero_le s0
  have hp : (0 : Int) < 2 ^ n := Int.pow_pos (by decide)
  have hn : n ≤ 180 := by omega
  have hle : (2 : Int) ^ n ≤ 2 ^ 180 := pow_mono hn
  rw [Int.toNat_natCast]
  exact ⟨Int.mul_nonneg d0 (Int.le_of_lt hp), Int.lt_of_lt_of_le (Int.mul_lt_mul_of_pos_right d1 hp) (Int.mul_le_mul_of_nonneg_left hle (by decide))⟩
/-- an int that is at least so much -/
def numAt (least : Int) : V → Bool
  | .int i => decide (least ≤ i)
  | _ => false
theorem bits_nat {i : Int} : ((Builtin.Int.intBits i : Nat) : Int).toNat = Builtin.Int.intBits i := Int.toNat_natCast _

/-- the lowest one of a number -/
def lowb (v : Int) : Int := Builtin.bitAnd v (-v)
theorem and_two (a b c d : Nat) (hb : b < 2) (hd : d < 2) : (2 * a + b) &&& (2 * c + d) = 2 * (a &&& c) + (b &&& d) := by
  have q : ((2 * a + b) &&& (2 * c + d)) / 2 = a &&& c := by
    rw [Nat.and_div_two, show (2 * a + b) / 2 = a by omega, show (2 * c + d) / 2 = c by omega]
  have r : ((2 * a + b) &&& (2 * c + d)) % 2 = b &&& d := by
    have := Nat.and_mod_two_pow (a := 2 * a + b) (b := 2 * c + d) (n := 1)
    rw [show (2 : Nat) ^ 1 = 2 from rfl] at this
    rw [this, show (2 * a + b) % 2 = b by omega, show (2 * c + d) % 2 = d by omega]
  omega
theorem and_pred (m : Nat) : ∀ j : Nat, (2 ^ j * (2 * m + 1)) &&& (2 ^ j * (2 * m + 1) - 1) = 2 ^ j * (2 * m)
  | 0 => by
    rw [Nat.pow_zero, Nat.one_mul, Nat.one_mul, Nat.add_sub_cancel]
    have := and_two m 1 m 0 (by decide) (by decide)
    rw [Nat.and_self] at this
    exact this
  | j + 1 => by
    have ih := and_pred m j
    have hp : 0 < 2 ^ j * (2 * m + 1) := Nat.mul_pos (Nat.pow_pos (by decide)) (Nat.succ_pos _)
    have e1 : 2 ^ (j + 1) * (2 * m + 1) = 2 * (2 ^ j * (2 * m + 1)) := by rw [Nat.pow_succ, Nat.mul_comm (2 ^ j) 2, Nat.mul_assoc]
    have e2 : 2 ^ (j + 1) * (2 * m) = 2 * (2 ^ j * (2 * m)) := by rw [Nat.pow_succ, Nat.mul_comm (2 ^ j) 2, Nat.mul_assoc]
    rw [e1, e2, ← ih]
    generalize 2 ^ j * (2 * m + 1) = u at hp ⊢
    have := and_two u 0 (u - 1) 1 (by decide) (by decide)
    rw [Nat.add_zero, show 2 * (u - 1) + 1 = 2 * u - 1 by omega] at this
    rw [this]
    rfl
theorem lowb_nat {n : Nat} (h : 0 < n) : lowb (n : Int) = (n : Int) - ((n &&& (n - 1) : Nat) : Int) := by
  unfold lowb Builtin.bitAnd
  have e1 : decide (0 ≤ (n : Int)) = true := by simp
  have e2 : decide (0 ≤ -(n : Int)) = false := by simp; omega
  rw [e1, e2]
  have e3 : (Builtin.bitNot (-(n : Int))).toNat = n - 1 := by unfold Builtin.bitNot; omega
  show (n : Int) - (((n : Int).toNat &&& (Builtin.bitNot (-(n : Int))).toNat : Nat) : Int) = _
  rw [e3, Int.toNat_natCast]
/-- the power of two that divides, while its double does not -/
theorem lowb_is {v : Int} {j : Nat} (h0 : 0 < v) (h1 : v % (2 ^ j : Int) = 0) (h2 : v % (2 * 2 ^ j : Int) ≠ 0) : lowb v = 2 ^ j := by
  obtain ⟨n, rfl⟩ := Int.eq_ofNat_of_zero_le (Int.le_of_lt h0)
  have h0 : 0 < n := by omega
  have p : (2 : Int) ^ j = ((2 ^ j : Nat) : Int) := by simp [Int.natCast_pow]
  rw [p] at h1 h2 ⊢
  have h1 : n % 2 ^ j = 0 := by have : ((n % 2 ^ j : Nat) : Int) = 0 := by rw [Int.natCast_emod]; exact h1
                                omega
  have h2 : n % (2 * 2 ^ j) ≠ 0 := fun z => h2 (by
    have : ((n % (2 * 2 ^ j) : Nat) : Int) = 0 := by rw [z]; rfl
    rw [Int.natCast_emod, Int.natCast_mul] at this
    exact this)
  obtain ⟨q, rfl⟩ := Nat.dvd_of_mod_eq_zero h1
  have ho : q % 2 = 1 := by
    rcases Nat.mod_two_eq_zero_or_one q with z | z
    · refine absurd ?_ h2
      obtain ⟨r, rfl⟩ := Nat.dvd_of_mod_eq_zero z
      rw [← Nat.mul_assoc, Nat.mul_comm (2 ^ j) 2, Nat.mul_mod_right]
    · exact z
  obtain ⟨m, rfl⟩ : ∃ m, q = 2 * m + 1 := ⟨q / 2, by omega⟩
  rw [lowb_nat h0, and_pred m j, Nat.mul_add, Nat.mul_one]
  omega
theorem pow_dvd_le {v : Int} {j : Nat} (h0 : 0 < v) (h1 : v % (2 ^ j : Int) = 0) : (2 : Int) ^ j ≤ v := Int.le_of_dvd h0 (Int.dvd_of_emod_eq_zero h1)
/-- the order of the versions -/
def precB (v o : Int) : Bool := if (decide (v = 0) || decide (o = 0)) = true then decide (v = 0) && decide (o > 0) else if lowb v = lowb o then decide (v > o) else decide (lowb v > lowb o)
theorem blk_fx {P : Program} {w : World} {K : PySem.W.Frag} {mg : Str → Option Value} {base : Heap} {N : List Str} {n : Str} {st : Stmt} {f : Addr} {cd : Value} {A : Around} {outer : List Env} {s : Shared} {H : Hp} {E : XK} {scope : Scope} {own : List (Str × Nat)} (h : blkC N (defScope st) scope own = true) : blkC (fx P w K mg base N n st f cd A outer s H E).N (fx P w K mg base N n st f cd A outer s H E).env.scope scope own = true := h
def Num (v : V) : Prop := ∃ n : Int, v = .int n ∧ 0 ≤ n ∧ n < 1000000000000000000000000000000000000000000000000000000000000000
theorem VerOk.num {v : Int} (h : VerOk v) : Num (.int v) := ⟨v, rfl, h.1, by have := h.2; omega⟩
theorem lowb_le {n : Int} (h : 0 < n) : 0 ≤ lowb n ∧ lowb n ≤ n := by
  obtain ⟨m, rfl⟩ := Int.eq_ofNat_of_zero_le (Int.le_of_lt h)
  rw [lowb_nat (by omega)]
  have := Nat.and_le_left (n := m) (m := m - 1)
  omega
theorem prec_trans {a b c : Int} (a0 : 0 ≤ a) (b0 : 0 ≤ b) (c0 : 0 ≤ c) (h1 : precB a b = true) (h2 : precB b c = true) : precB a c = true := by
  unfold precB at *
  by_cases za : a = 0
  · by_cases zb : b = 0
    · simp [za, zb] at h1
    · by_cases zc : c = 0
      · simp [zb, zc] at h2
      · simp [za]; omega
  · by_cases zb : b = 0
    · simp [za, zb] at h1
    · by_cases zc : c = 0
      · simp [zb, zc] at h2
      · simp [za, zb] at h1
        simp [zb, zc] at h2
        simp [za, zc]
        split at h1 <;> split at h2 <;> split <;> (try simp only [decide_eq_true_eq] at *) <;> omega
theorem all_rep (n : Nat) : (List.replicate n true).all id = true := by simp
theorem numAt_bad {a : Int} (h : 0 ≤ a) (z : numAt 0 (.int a) = false) : False := by
  simp [numAt] at z
  omega
theorem numAt_bad2 {a b : Int} (ha : 0 ≤ a) (hb : 0 ≤ b) (z : numAt 0 (.int a) = false ∨ numAt 0 (.int b) = false) : False := z.elim (numAt_bad ha) (numAt_bad hb)
/-! ## calls with keywords, defaults -/
section
variable {X : Cx} {W : WX} {e : Expr} {es : List Expr} {kws : List Keyword} {σ : St} {H H1 : Hp} {Q : VK} {QA QA1 : List V → Hp → Prop} {nm : Option Str} {kpos : Pos} {v : V} {vs : List V}
/-- the keywords' values -/
def WK (X : Cx) (kws : List Keyword) (σ : St) (H : Hp) (Q : List V → Hp → Prop) : Prop :=
  ∀ H1, Ex H H1 → ∀ pos pins s, Inv X pins σ H1 s → wpAny (model X.prog X.w) X.A (evalAll ((backToKw pos (keywordEach kws X.env)).map (·.2))) (AP X pins σ (upA Q)) X.xe s
def tWK (X : Cx) (kws : List Keyword) : TA := fun σ H1 Q1 => ∃ H Q, Ex H H1 ∧ WK X kws σ H Q ∧ ∀ v H2, upA Q v H2 → Q1 v H2
theorem pk_W : PK X kws (tWK X kws) := ⟨fun pos pins s σ H1 Q1 I ⟨H, Q, x, w, k⟩ => thn (w H1 x pos pins s I) fun u s' ⟨v, H2, I2, r, q⟩ => ⟨v, H2, I2, r, k v H2 q⟩⟩
theorem WK.of {t : TA} (h : PK X kws t) (q : ∀ H1, Ex H H1 → t σ H1 (upA QA)) : WK X kws σ H QA := fun H1 x pos pins s I => h.run pos pins s σ H1 _ I (q H1 x)
theorem WK.t (w : WK X kws σ H QA) (x : Ex H H1) (k : ∀ v H2, upA QA v H2 → QA1 v H2) : tWK X kws σ H1 QA1 := ⟨H, QA, x, w, k⟩
theorem wk_nil (q : QA [] H) : WK X [] σ H QA := .of pk_nil fun H1 x => ⟨H, x, q⟩
theorem wk_cons (h : WE X e σ H fun x H1 => WK X kws σ H1 fun xs H2 => QA (x :: xs) H2) : WK X (⟨nm, e, kpos⟩ :: kws) σ H QA :=
  .of (pk_cons pe_W pk_W) fun H1 x => h.t x fun v H2 ⟨H3, x3, w⟩ => w.t x3 fun _ _ q => q
def EK (X : Cx) (kws : List Keyword) (σ : St) (H : Hp) (vs : List V) : Prop := ∀ H1, Ex H H1 → ∀ Q : List V → Hp → Prop, Q vs H1 → WK X kws σ H1 Q
theorem EK.wk (h : EK X kws σ H vs) (q : QA vs H) : WK X kws σ H QA := h H (Ex.refl H) QA q
theorem ek_nil : EK X [] σ H [] := fun H1 x Q q => wk_nil q
theorem ek_cons (ha : EV X e σ H v) (hr : EK X kws σ H vs) : EK X (⟨nm, e, kpos⟩ :: kws) σ H (v :: vs) := fun H1 x Q q => wk_cons (ha H1 x _ (hr H1 x _ q))
end
/-- a def called with m positional values and the keywords ks; gV: the values in the parameters' order -/
structure CalK (P : Program) (w : World) (K : PySem.W.Frag) (mg : Str → Option Value) (base : Heap) (n : Str) (k m : Nat) (ks : List Str) (gV : List V → List V → List V) (sp : Sp) : Prop where
  ex : ∃ (f : Addr) (fd : FuncData) (ps : List Str) (g : List Value → List Value → List Value), FnG P w K mg base k f fd ps sp ∧ mg n = some (.ref f) ∧ PySem.W.keepIn K (.ref f) = true ∧ KBn K fd ps m ks g gV
section
variable {X : Cx} {W : WX} {e : Expr} {es : List Expr} {kws : List Keyword} {σ : St} {H H1 : Hp} {Q : VK} {E : XK} {v : V} {vs zs : List V} {n : Str} {k j m : Nat} {f : Addr} {fd : FuncData} {ps ks : List Str} {sp : Sp} {us ws : List Value} {p pos : Pos} {pins : List (Addr × Obj)} {s : Shared} {g : List Value → List Value → List Value} {gV : List V → List V → List V}
theorem run_fngN (F : FnG X.prog X.w X.K X.mg X.base k f fd ps sp) (c : Cn X W k) (hb : KBn X.K fd ps m ks g gV) (I : Inv X pins σ H1 s) (x : Ex H H1) (r : Vals vs us) (rz : Vals zs ws) (l1 : vs.length = m) (l2 : zs.length = ks.length) (h : sp (gV vs zs) H Q fun c d H' => W c d σ H') :
    wpAny (model X.prog X.w) X.A (call (.ref f) us (ks.zip ws)) (EP X pins σ (up Q)) X.xe s := by
  have r2 := hb.rel r rz
  refine wpAny_call (codeAny_mono (F.run X.A X.stack s H1 ⟨us, ks.zip ws⟩ (g us ws) (gV vs zs) H Q _ c.room c.gd I.env0 (hb.to s us ws I.kIn (r.length.symm.trans l1) (rz.length.symm.trans l2)) r2 x h) fun res s' q => ?_)
  rcases res with er | fl
  · exact c.tk er s' (XE.of_call I (fun cl d H' ⟨H2, x2, q2⟩ => c.wu _ _ _ _ _ q2 x2) q)
  · cases fl with
    | ret u => exact I.after q
    | _ => exact q.elim
/-- f(e, .., k = v, ..) -/
theorem we_callK (C : CalK X.prog X.w X.K X.mg X.base n k m ks gV sp) (c : Cn X W j) (ha : WA X (e :: es) σ H fun vs H1 => WK X kws σ H1 fun zs H2 => vs.length = m ∧ zs.length = ks.length ∧ sp (gV vs zs) H2 Q fun c d H' => W c d σ H') (hkj : k ≤ j := by decide) (hg : Gl X n := by rfl)
    (hall : (backToKw pos (keywordEach kws X.env)).all (·.1.isSome) = true := by rfl) (hks : (backToKw pos (keywordEach kws X.env)).filterMap (·.1) = ks := by rfl)
    (hdb : (n == ("__debug__" : Str)) = false := by decide) (he : starEach (e :: es) X.env = (false, eval e X.env) :: starEach es X.env := by rfl)
    (hpl : ((backTo pos (starEach (e :: es) X.env)).any (·.1) || (backToKw pos (keywordEach kws X.env)).any (·.1.isNone)) = false := by rfl) : WE X (.Call (.Name n p) (e :: es) kws pos) σ H Q := by
  obtain ⟨f, fd, ps, g, F, hm, hk, hb⟩ := C.ex
  intro H1 x pins s I
  refine wpAny_Call_Name_kw (ld_glob I hg hm ?_ hdb)
  refine PySem.W.callWith_KW (h₀ := X.base) I.ok.mod.kin hk hall (thn (ha H1 x pos pins s I) fun us s1 ⟨vs, H2, I2, r, H3, x3, q⟩ => ?_) hpl he
  refine thn (q H2 x3 pos pins s1 I2) fun ws s2 ⟨zs, H4, I4, rz, H5, x5, l1, l2, q2⟩ => ⟨I4.kIn, ?_⟩
  rw [hks]
  exact run_fngN F (c.mono hkj) hb I4 x5 r rz l1 l2 q2
theorem we_callK0 (C : CalK X.prog X.w X.K X.mg X.base n k 0 ks gV sp) (c : Cn X W j) (ha : WK X kws σ H fun zs H2 => zs.length = ks.length ∧ sp (gV [] zs) H2 Q fun c d H' => W c d σ H') (hkj : k ≤ j := by decide) (hg : Gl X n := by rfl)
    (hall : (backToKw pos (keywordEach kws X.env)).all (·.1.isSome) = true := by rfl) (hks : (backToKw pos (keywordEach kws X.env)).filterMap (·.1) = ks := by rfl)
    (hdb : (n == ("__debug__" : Str)) = false := by decide) (hpl : ((backTo pos (starEach [] X.env)).any (·.1) || (backToKw pos (keywordEach kws X.env)).any (·.1.isNone)) = false := by rfl) : WE X (.Call (.Name n p) [] kws pos) σ H Q := by
  obtain ⟨f, fd, ps, g, F, hm, hk, hb⟩ := C.ex
  intro H1 x pins s I
  refine wpAny_Call_Name_kw (ld_glob I hg hm ?_ hdb)
  refine PySem.W.callWith_KW0 (h₀ := X.base) I.ok.mod.kin hk hall ?_ hpl
  refine thn (ha H1 x pos pins s I) fun ws s2 ⟨zs, H4, I4, rz, H5, x5, l2, q2⟩ => ⟨I4.kIn, ?_⟩
  rw [hks]
  exact run_fngN (us := []) (vs := []) F (c.mono hkj) hb I4 x5 .nil rz rfl l2 q2
theorem ev_callK (C : CalK X.prog X.w X.K X.mg X.base n k m ks gV sp) (c : Cn X W j) (ha : EA X (e :: es) σ H vs) (hz : EK X kws σ H zs) (h : vs.length = m ∧ zs.length = ks.length ∧ ∀ H1, Ex H H1 → ∀ Q E, Q v H1 → sp (gV vs zs) H1 Q E) (hkj : k ≤ j := by decide) (hg : Gl X n := by rfl)
    (hall : (backToKw pos (keywordEach kws X.env)).all (·.1.isSome) = true := by rfl) (hks : (backToKw pos (keywordEach kws X.env)).filterMap (·.1) = ks := by rfl)
    (hdb : (n == ("__debug__" : Str)) = false := by decide) (he : starEach (e :: es) X.env = (false, eval e X.env) :: starEach es X.env := by rfl)
    (hpl : ((backTo pos (starEach (e :: es) X.env)).any (·.1) || (backToKw pos (keywordEach kws X.env)).any (·.1.isNone)) = false := by rfl) : EV X (.Call (.Name n p) (e :: es) kws pos) σ H v := fun H1 x Q q =>
  we_callK C c (ha H1 x _ (hz H1 x _ ⟨h.1, h.2.1, h.2.2 H1 x Q _ q⟩)) hkj hg hall hks hdb he hpl
theorem ev_callK0 (C : CalK X.prog X.w X.K X.mg X.base n k 0 ks gV sp) (c : Cn X W j) (hz : EK X kws σ H zs) (h : zs.length = ks.length ∧ ∀ H1, Ex H H1 → ∀ Q E, Q v H1 → sp (gV [] zs) H1 Q E) (hkj : k ≤ j := by decide) (hg : Gl X n := by rfl)
    (hall : (backToKw pos (keywordEach kws X.env)).all (·.1.isSome) = true := by rfl) (hks : (backToKw pos (keywordEach kws X.env)).filterMap (·.1) = ks := by rfl)
    (hdb : (n == ("__debug__" : Str)) = false := by decide) (hpl : ((backTo pos (starEach [] X.env)).any (·.1) || (backToKw pos (keywordEach kws X.env)).any (·.1.isNone)) = false := by rfl) : EV X (.Call (.Name n p) [] kws pos) σ H v := fun H1 x Q q =>
  we_callK0 C c (hz H1 x _ ⟨h.1, h.2 H1 x Q _ q⟩) hkj hg hall hks hdb hpl
end
section
variable {P : Program} {w : World} {K : PySem.W.Frag} {mg : Str → Option Value} {base : Heap} {n : Str} {st : Stmt} {ps N : List Str} {k m : Nat} {sp : Sp} {ks : List Str} {kws : List (Str × V)}
/-- the same def, called with keywords: how they bind is told of its own text -/
theorem Cal.kw (C : Cal P w K mg base n k ps [] sp) (d : Def K mg n st ps) (m : Nat) (ks : List Str) (g : {α : Type} → List α → List α → List α) (hrel : ∀ {vs zs : List V} {us ws : List Value}, Vals vs us → Vals zs ws → Vals (g vs zs) (g us ws))
    (hb : ∀ (kV doc pm : Value) (an : Option Addr) (cdv ct : Value) (us ws : List Value), us.length = m → ws.length = ks.length → bindArgs (PySem.W.fnOf n n (defArgs st) (defBody st) (defScope st) .none kV doc pm an cdv ct) ⟨us, ks.zip ws⟩ = pure (ps.zip (g us ws))) : CalK P w K mg base n k m ks g sp := by
  obtain ⟨f, fd, ds, F, hm, hk, _, _, oc, od, osl, lk⟩ := C.ex
  obtain ⟨oc2, od2, kV, doc, pm, an, cd, ct, osl2, e, lk2, _⟩ := d.F.ex
  have ef := hm.symm.trans d.g
  cases ef
  have e2 := lk.symm.trans lk2
  simp only [Option.some.injEq, Obj.mk.injEq, Data.func.injEq] at e2
  have e3 : fd = d.fd := e2.2.2.1
  refine ⟨d.f, fd, ps, g, F, hm, hk, ⟨fun s us ws X l1 l2 => ?_, fun r1 r2 => hrel r1 r2⟩⟩
  rw [e3, e]
  exact .of_eq (hb kV doc pm an cd ct us ws l1 l2)
/-- a def with keyword-only parameters that have defaults, no other defaults -/
structure DefK (K : PySem.W.Frag) (mg : Str → Option Value) (n : Str) (st : Stmt) (kws : List (Str × V)) : Type where
  f : Addr
  fd : FuncData
  F : FunD K n n (defArgs st) (defBody st) (defScope st) [] kws f fd
  g : mg n = some (.ref f)
theorem DefK.fng {ps : List Str} (d : DefK K mg n st kws) (S : FnScope N ps (defScope st)) (len : ∀ vs H Q E, sp vs H Q E → vs.length = ps.length)
    (body : ∀ (cd : Value) (A : Around) (outer : List Env) (s : Shared) (H1 : Hp) (E1 : XK) (W : WX) (vs : List V) (H : Hp) (Q : VK) (E : XK), Cn (fx P w K mg base N n st d.f cd A outer s H1 E1) W k → Own (fx P w K mg base N n st d.f cd A outer s H1 E1) →
      (∀ c d σ H', E c d H' → W c d σ H') → sp vs H Q E → WSs (fx P w K mg base N n st d.f cd A outer s H1 E1) (defBody st) { nx := fun _ H' => Q .non H', rt := Q } (start N vs) H) : FnG P w K mg base (k + 1) d.f d.fd ps sp := by
  obtain ⟨oc, od, dV, kV, doc, pm, an, cdv, ct, osl, e, lk, hcd, hD, hK⟩ := d.F.ex
  rcases hD with ⟨_, rfl⟩ | ⟨z, _⟩
  · exact fng_of ⟨⟨oc, od, kV, doc, pm, an, cdv, ct, osl, e, lk, hcd⟩, d.F.kp⟩ S len body
  · exact absurd rfl z
/-- called without them: their defaults -/
theorem DefK.cal0 {ps : List Str} (d : DefK K mg n st kws) (F : FnG P w K mg base k d.f d.fd ps sp) (m : Nat) (hk : kws ≠ []) (hn : m + kws.length = ps.length)
    (h : ∀ (D : Addr) (doc pm : Value) (an : Option Addr) (cdv ct : Value) (us ks : List Value), us.length = m → ks.length = kws.length →
      KwChain D ((kws.map (·.1)).zip ks) (bindArgs (PySem.W.fnOf n n (defArgs st) (defBody st) (defScope st) .none (.ref D) doc pm an cdv ct) ⟨us, []⟩) (ps.zip (us ++ ks))) : Cal P w K mg base n k ps (kws.map (·.2)) sp := by
  obtain ⟨ds, hv, hb⟩ := d.F.binds0 (ps := ps) m hk hn h
  obtain ⟨oc, od, dV, kV, doc, pm, an, cdv, ct, osl, e, lk, _⟩ := d.F.ex
  exact ⟨d.f, d.fd, ds, F, d.g, d.F.kp, hb, hv, oc, od, osl, lk⟩
/-- called with some of them -/
theorem DefK.calK {ps : List Str} (d : DefK K mg n st kws) (F : FnG P w K mg base k d.f d.fd ps sp) (m : Nat) (ks : List Str) (ms : List (Str × V)) (g : {α : Type} → List α → List α → List α → List α) (hk : kws ≠ []) (hms : ∀ q ∈ ms, q ∈ kws)
    (hrel : ∀ {vs mz zs : List V} {us mv ws : List Value}, Vals vs us → Vals mz mv → Vals zs ws → Vals (g vs mz zs) (g us mv ws))
    (h : ∀ (D : Addr) (doc pm : Value) (an : Option Addr) (cdv ct : Value) (us mv ws : List Value), us.length = m → mv.length = ms.length → ws.length = ks.length →
      KwChain D ((ms.map (·.1)).zip mv) (bindArgs (PySem.W.fnOf n n (defArgs st) (defBody st) (defScope st) .none (.ref D) doc pm an cdv ct) ⟨us, ks.zip ws⟩) (ps.zip (g us mv ws))) : CalK P w K mg base n k m ks (fun vs zs => g vs (ms.map (·.2)) zs) sp := by
  obtain ⟨mv, hb⟩ := d.F.kbinds0 (ps := ps) m ks ms g hk hms hrel h
  exact ⟨d.f, d.fd, ps, _, F, d.g, d.F.kp, hb⟩
end
/-! ## wide products -/
def Wide (i : Int) : Prop := -10000000000000000000000000000000000000000000000000000000000000000000000000000000000000000000000000000 ≤ i ∧ i ≤ 10000000000000000000000000000000000000000000000000000000000000000000000000000000000000000000000000000
theorem Wide.bits {i : Int} (h : Wide i) : Builtin.Int.intBits i ≤ 400 := PyProof.Rows.intBits_le (big_lt h.1 h.2)
theorem eo_mulW {X : Cx} {H : Hp} {i j : Int} (h1 : Wide i) (h2 : Wide j) : EO X (binaryOp .Mult) (.int i) (.int j) H (.int (i * j)) := eo_of op_mulX fun _ _ _ q => ⟨i, j, rfl, rfl, by
  have a := h1.bits
  have b := h2.bits
  show (Builtin.Int.intBits i : Int) + (Builtin.Int.intBits j : Int) ≤ 134217728
  omega, q⟩

/-! ## the strongest versions of a range, as the program finds them -/
def oddFrom (low power : Int) : Nat → Int → List Int
  | 0, _ => []
  | n + 1, last => if (decide (last > 0) && decide (last * power ≥ low)) = true then last * power :: oddFrom low power n (last - 2) else []
def lastOf (high power : Int) : Int := if decide (high / power % 2 = 0) = true then high / power - 1 else high / power
def strL (low high : Int) (n : Nat) : Nat → List Int → List Int
  | 0, f => f
  | k + 1, f => if f.length < n then strL low high n k (f ++ oddFrom low (2 ^ k) (n - f.length) (lastOf high (2 ^ k))) else f
def strongL (low high : Int) (n : Nat) : List Int := strL low high n (Builtin.Int.intBits high + 1) (if (decide (low = 0) && decide ((n : Int) > 0)) = true then [0] else [])
theorem oddFrom_len {low power : Int} : ∀ (n : Nat) (last : Int), (oddFrom low power n last).length ≤ n
  | 0, _ => Nat.le_refl _
  | n + 1, last => by
    unfold oddFrom
    split
    · rw [List.length_cons]
      exact Nat.succ_le_succ (oddFrom_len n _)
    · exact Nat.zero_le _
theorem oddFrom_mem {low power : Int} (hp : 0 < power) : ∀ (n : Nat) (last v : Int), v ∈ oddFrom low power n last → low ≤ v ∧ 0 < v ∧ v ≤ last * power
  | 0, _, _, h => nomatch h
  | n + 1, last, v, h => by
    unfold oddFrom at h
    split at h
    · rename_i hc
      simp only [Bool.and_eq_true, decide_eq_true_eq] at hc
      rcases List.mem_cons.mp h with rfl | h
      · exact ⟨hc.2, Int.mul_pos hc.1 hp, Int.le_refl _⟩
      · obtain ⟨a, b, c⟩ := oddFrom_mem hp n _ v h
        exact ⟨a, b, Int.le_trans c (Int.mul_le_mul_of_nonneg_right (by omega) (by omega))⟩
    · cases h
theorem lastOf_le {high power : Int} (hp : 0 < power) : lastOf high power * power ≤ high := by
  have h1 : high / power * power ≤ high := Int.ediv_mul_le _ (by omega)
  unfold lastOf
  split
  · rw [Int.sub_mul, Int.one_mul]
    omega
  · exact h1
theorem strL_ok {low high : Int} {n : Nat} (h0 : 0 ≤ high) : ∀ (k : Nat) (f : List Int), f.length ≤ n → (∀ v ∈ f, 0 ≤ v ∧ v ≤ high) → (strL low high n k f).length ≤ n ∧ ∀ v ∈ strL low high n k f, 0 ≤ v ∧ v ≤ high
  | 0, f, hl, hm => ⟨hl, hm⟩
  | k + 1, f, hl, hm => by
    unfold strL
    split
    · have hp : (0 : Int) < 2 ^ k := Int.pow_pos (by decide)
      refine strL_ok h0 k _ ?_ fun v hv => ?_
      · rw [List.length_append]
        have := oddFrom_len (low := low) (power := 2 ^ k) (n - f.length) (lastOf high (2 ^ k))
        omega
      · rcases List.mem_append.mp hv with hv | hv
        · exact hm v hv
        · obtain ⟨_, b, c⟩ := oddFrom_mem hp _ _ v hv
          exact ⟨by omega, Int.le_trans c (lastOf_le hp)⟩
    · exact ⟨hl, hm⟩
theorem strongL_ok {low high : Int} {n : Nat} (h0 : 0 ≤ high) : (strongL low high n).length ≤ n ∧ ∀ v ∈ strongL low high n, 0 ≤ v ∧ v ≤ high := by
  unfold strongL
  split
  · rename_i hc
    simp only [Bool.and_eq_true, decide_eq_true_eq] at hc
    exact strL_ok h0 _ _ (by simp; omega) (by simp [h0])
  · exact strL_ok h0 _ _ (Nat.zero_le _) (by simp)
/-! ## readings: what a text asks, no machine in sight -/
abbrev RX := St → Hp → VK → WX → Prop
abbrev RT := St → Hp → (Bool → Hp → Prop) → WX → Prop
abbrev RA := St → Hp → (List V → Hp → Prop) → WX → Prop
abbrev RS := Ends → WX → St → Hp → Prop
abbrev RG := V → St → Hp → (St → Hp → Prop) → WX → Prop
abbrev RGs := List V → St → Hp → (St → Hp → Prop) → WX → Prop
abbrev RO := V → V → Hp → VK → Prop
abbrev RC := List V → Hp → VK → Prop
structure SX (X : Cx) (j : Nat) (t : RX) (e : Expr) : Prop where
  run : ∀ {W : WX}, Cn X (upW W) j → ∀ {σ H Q}, t σ H Q W → WE X e σ H Q
structure SB (X : Cx) (j : Nat) (t : RT) (e : Expr) : Prop where
  run : ∀ {W : WX}, Cn X (upW W) j → ∀ {σ H Q}, t σ H Q W → WT X e σ H Q
structure SW (X : Cx) (j : Nat) (t : RT) (e : Expr) : Prop where
  run : ∀ {W : WX}, Cn X (upW W) j → ∀ {σ H Q}, t σ H Q W → WW X e σ H Q
structure SA (X : Cx) (j : Nat) (t : RA) (es : List Expr) : Prop where
  run : ∀ {W : WX}, Cn X (upW W) j → ∀ {σ H Q}, t σ H Q W → WA X es σ H Q
structure SK (X : Cx) (j : Nat) (t : RA) (es : List Keyword) : Prop where
  run : ∀ {W : WX}, Cn X (upW W) j → ∀ {σ H Q}, t σ H Q W → WK X es σ H Q
structure SS (X : Cx) (j : Nat) (t : RS) (st : Stmt) : Prop where
  run : ∀ {W : WX}, Cn X (upW W) j → Own X → ∀ {D σ H}, t D W σ H → WS X st D σ H
structure SSs (X : Cx) (j : Nat) (t : RS) (sts : List Stmt) : Prop where
  run : ∀ {W : WX}, Cn X (upW W) j → Own X → ∀ {D σ H}, t D W σ H → WSs X sts D σ H
structure SG (X : Cx) (j : Nat) (t : RG) (tg : Expr) : Prop where
  run : ∀ {W : WX}, Cn X (upW W) j → ∀ {v σ H R}, t v σ H R W → WG X tg v σ H R
structure SGs (X : Cx) (j : Nat) (t : RGs) (tg : List Expr) : Prop where
  run : ∀ {W : WX}, Cn X (upW W) j → ∀ {v σ H R}, t v σ H R W → WGs X tg v σ H R
def SO (X : Cx) (f : Value → Value → Sem Value) (r : RO) : Prop := ∀ x y H Q, r x y H Q → WO X f x y H Q
def SC (X : Cx) (fn : Value) (r : RC) : Prop := ∀ xs H Q, r xs H Q → WC X fn xs H Q
def fg (P : Hp → Prop) (H : Hp) : Prop := ∃ H', Ex H' H ∧ P H'
theorem fg.i {P : Hp → Prop} {H : Hp} (h : P H) : fg P H := ⟨H, Ex.refl H, h⟩
/-! ## slots -/
def slot : St → Nat → Option V
  | [], _ => none
  | o :: _, 0 => o
  | _ :: l, n + 1 => slot l n
theorem slot_get : ∀ {σ : St} {i : Nat} {v : V}, slot σ i = some v → σ[i]? = some (some v)
  | o :: _, 0, _, h => by simpa [slot] using h
  | _ :: l, n + 1, _, h => by simpa using slot_get (σ := l) h
def put : St → Nat → V → St
  | [], _, _ => []
  | _ :: l, 0, v => some v :: l
  | o :: l, n + 1, v => o :: put l n v
theorem put_set : ∀ {σ : St} {i : Nat} {v : V}, put σ i v = σ.set i (some v)
  | [], _, _ => rfl
  | _ :: _, 0, _ => rfl
  | o :: l, n + 1, v => by simp [put, put_set]
section
variable {X : Cx} {j : Nat} {W W1 : WX} {e a b c : Expr} {es rest : List Expr} {st : Stmt} {sts body : List Stmt} {σ : St} {H H1 : Hp} {Q : VK} {D : Ends} {pos p pos' : Pos} {t ta tb : RX} {tc td : RT} {r : RO} {n : Str} {i : Nat}
/-! ## names, constants -/
def rVar (i : Nat) : RX := fun σ H Q _ => match slot σ i with
  | some v => Q v H
  | none => False
theorem s_var {i : Nat} {n : Str} (hN : X.N[i]? = some n) (hv : Vis X.env.scope n) (hd : (n == ("__debug__" : Str)) = false := by decide) (hcd : (n == ("__classdict__" : Str)) = false := by decide) : SX X j (rVar i) (.Name n pos) := ⟨fun c σ H Q h => by
  unfold rVar at h
  cases e : slot σ i with
  | some v => rw [e] at h; exact EV.we (ev_var hN hv (slot_get e) hd hcd) h
  | none => rw [e] at h; exact h.elim⟩
def rC (v : V) : RX := fun _ H Q _ => Q v H
theorem SX.of_ev {v : V} (h : ∀ {σ H}, EV X e σ H v) : SX X j (rC v) e := ⟨fun _ _ _ _ q => h.we q⟩
theorem s_int {i : Int} {k} : SX X j (rC (.int i)) (.Constant (.int i) k pos) := .of_ev ev_int
theorem s_bl {i : Bool} {k} : SX X j (rC (.bl i)) (.Constant (.bool i) k pos) := .of_ev ev_bl
theorem s_non {k} : SX X j (rC .non) (.Constant .none k pos) := .of_ev ev_non
theorem s_str {i : Str} {k} : SX X j (rC (.str i)) (.Constant (.str i) k pos) := .of_ev ev_str
theorem s_glob {n : Str} {u : Value} {v : V} (hm : X.mg n = some u) (r : RelV v u) (hg : Gl X n := by rfl) (hd : (n == ("__debug__" : Str)) = false := by decide) : SX X j (rC v) (.Name n pos) := .of_ev (ev_glob hm r hg hd)
theorem s_globE {n : Str} {v : V} {α : Type} {f : α → Value} (hm : ∃ t, X.mg n = some (f t)) (r : ∀ t, RelV v (f t)) (hg : Gl X n := by rfl) (hd : (n == ("__debug__" : Str)) = false := by decide) : SX X j (rC v) (.Name n pos) := by
  obtain ⟨t, hm⟩ := hm
  exact .of_ev (ev_glob hm (r t) hg hd)
theorem s_ty {n : Str} {T : String} (hm : X.mg n = none) (hv : bootBuiltins n = some (.type T)) (hg : Gl X n := by rfl) (hn : n ≠ "__name__" := by decide) (hd : (n == ("__debug__" : Str)) = false := by decide) : SX X j (rC (.ty T)) (.Name n pos) := .of_ev (ev_ty hm hv hg hn hd)
/-! ## operators -/
def rBin (r : RO) (a b : RX) : RX := fun σ H Q W => a σ H (fun x H1 => b σ H1 (fun y H2 => r x y H2 Q) W) W
theorem s_bin {op : Operator} (ho : SO X (binaryOp op) r) (ha : SX X j ta a) (hb : SX X j tb b) : SX X j (rBin r ta tb) (.BinOp a op b pos) :=
  ⟨fun c _ _ _ h => we_bin ((ha.run c h).mono fun _ _ h => (hb.run c h).mono fun _ _ h => ho _ _ _ _ h)⟩
theorem s_cmp {op : CmpOp} (ho : SO X (compareOp op) r) (ha : SX X j ta a) (hb : SX X j tb b) (hm : behindInMarks op b = false := by first | exact nomark _ | with_unfolding_all rfl) : SX X j (rBin r ta tb) (.Compare a [op] [b] pos) :=
  ⟨fun c _ _ _ h => we_cmp ((ha.run c h).mono fun _ _ h => (hb.run c h).mono fun _ _ h => ho _ _ _ _ h) hm⟩
/-- of a bool -/
def ob (Q : Bool → Hp → Prop) : VK := fun x H => match x with
  | .bl k => Q k H
  | _ => False
theorem ob.get {QB : Bool → Hp → Prop} {x : V} (h : ob QB x H) : ∃ k, x = .bl k ∧ QB k H := by
  cases x <;> first | exact ⟨_, rfl, h⟩ | exact h.elim
def tCmp (r : RO) (a b : RX) : RT := fun σ H Q W => a σ H (fun x H1 => b σ H1 (fun y H2 => r x y H2 (ob Q)) W) W
theorem WO.mono {f : Value → Value → Sem Value} {x y : V} {Q1 : VK} (w : WO X f x y H Q) (k : ∀ v H, Q v H → Q1 v H) : WO X f x y H Q1 := fun H1 e pins s σ v u I rx ry => thn (w H1 e pins s σ v u I rx ry) fun u s' ⟨v, H2, I2, r, q⟩ => ⟨v, H2, I2, r, up.mono k q⟩
theorem b_cmp {op : CmpOp} (ho : SO X (compareOp op) r) (ha : SX X j ta a) (hb : SX X j tb b) (hm : behindInMarks op b = false := by first | exact nomark _ | with_unfolding_all rfl) : SB X j (tCmp r ta tb) (.Compare a [op] [b] pos) :=
  ⟨fun c _ _ _ h => wt_cmp ((ha.run c h).mono fun _ _ h => (hb.run c h).mono fun _ _ h => (ho _ _ _ _ h).mono fun _ _ h => h.get) hm⟩
/-- a op b op' c -/
def tCh (r r2 : RO) (a b c : RX) : RT := fun σ H Q W => a σ H (fun x H1 => b σ H1 (fun y H2 => r x y H2 (ob fun k H3 => (k = true → c σ H3 (fun z H4 => r2 y z H4 (ob Q)) W) ∧ (k = false → Q false H3))) W) W
theorem WE.tt (w : WE X e σ H Q) : tWE X e σ H (up Q) := ⟨H, Q, Ex.refl H, w, fun _ _ q => q⟩
theorem b_ch {op op' : CmpOp} {r2 : RO} {tcc : RX} (ho : SO X (compareOp op) r) (ho2 : SO X (compareOp op') r2) (ha : SX X j ta a) (hb : SX X j tb b) (hc : SX X j tcc c) (hm : lastMarks [op, op'] [b, c] = false := by with_unfolding_all rfl) : SB X j (tCh r r2 ta tb tcc) (.Compare a [op, op'] [b, c] pos) :=
  ⟨fun cn σ H Q h => .of (pt_chain op_W op_W pe_W pe_W pe_W hm) fun H2 e2 => (ha.run cn h).t e2 fun v H3 ⟨H3', x3, h⟩ => (hb.run cn h).t x3 fun u H4 ⟨H4', x4, h⟩ => (ho _ _ _ _ h).t x4 fun q H5 ⟨H5', x5, h⟩ => by
    obtain ⟨k, rfl, h1, h2⟩ := h.get
    refine ⟨k, rfl, ?_⟩
    cases k with
    | false => exact iteF ⟨false, rfl, _, x5, h2 rfl⟩
    | true => exact iteT ((hc.run cn (h1 rfl)).t x5 fun s H6 ⟨H6', x6, h⟩ => (ho2 _ _ _ _ h).t x6 fun z H7 ⟨H7', x7, h⟩ => by
        obtain ⟨k, rfl, h⟩ := h.get
        exact ⟨k, rfl, _, x7, h⟩)⟩
def rCh (r r2 : RO) (a b c : RX) : RX := fun σ H Q W => a σ H (fun x H1 => b σ H1 (fun y H2 => r x y H2 (ob fun k H3 => (k = true → c σ H3 (fun z H4 => r2 y z H4 Q) W) ∧ (k = false → Q (.bl false) H3))) W) W
theorem s_ch {op op' : CmpOp} {r2 : RO} {tcc : RX} (ho : SO X (compareOp op) r) (ho2 : SO X (compareOp op') r2) (ha : SX X j ta a) (hb : SX X j tb b) (hc : SX X j tcc c) (hm : lastMarks [op, op'] [b, c] = false := by with_unfolding_all rfl) : SX X j (rCh r r2 ta tb tcc) (.Compare a [op, op'] [b, c] pos) :=
  ⟨fun cn σ H Q h => .of (pe_chain op_W op_W pe_W pe_W pe_W hm) fun H2 e2 => (ha.run cn h).t e2 fun v H3 ⟨H3', x3, h⟩ => (hb.run cn h).t x3 fun u H4 ⟨H4', x4, h⟩ => (ho _ _ _ _ h).t x4 fun q H5 ⟨H5', x5, h⟩ => by
    obtain ⟨k, rfl, h1, h2⟩ := h.get
    refine ⟨k, rfl, ?_⟩
    cases k with
    | false => exact iteF ⟨_, x5, h2 rfl⟩
    | true => exact iteT ((hc.run cn (h1 rfl)).t x5 fun s H6 ⟨H6', x6, h⟩ => (ho2 _ _ _ _ h).t x6 fun z H7 h => h)⟩
def rNeg (a : RX) : RX := fun σ H Q W => a σ H (fun x H1 => match x with
  | .int i => Q (.int (-i)) H1
  | _ => False) W
theorem s_neg (ha : SX X j ta a) : SX X j (rNeg ta) (.UnaryOp .USub a pos) := ⟨fun c _ _ _ h => we_un ((ha.run c h).mono fun x H1 h => by
  cases x <;> first | exact ⟨_, un_neg, h⟩ | exact h.elim)⟩
/-! ## the operators by values -/
/-- of two ints, with what must hold of them -/
def oI (p : Int → Int → Prop) (f : Int → Int → V) : RO := fun x y H Q => match x, y with
  | .int i, .int j => p i j ∧ Q (f i j) H
  | _, _ => False
def oJ (f : Int → Int → V) : RO := fun x y H Q => match x, y with
  | .int i, .int j => Q (f i j) H
  | _, _ => False
theorem so_I {g : Value → Value → Sem Value} {p : Int → Int → Prop} {f : Int → Int → V} (h : ∀ {i j H}, p i j → EO X g (.int i) (.int j) H (f i j)) : SO X g (oI p f) := fun x y H Q q => by
  cases x <;> first | exact q.elim | skip
  cases y <;> first | exact q.elim | skip
  exact (h q.1).wo q.2
theorem so_J {g : Value → Value → Sem Value} {f : Int → Int → V} (h : ∀ {i j H}, EO X g (.int i) (.int j) H (f i j)) : SO X g (oJ f) := fun x y H Q q => by
  cases x <;> first | exact q.elim | skip
  cases y <;> first | exact q.elim | skip
  exact h.wo q
abbrev oAdd : RO := oJ fun i j => .int (i + j)
abbrev oSub : RO := oJ fun i j => .int (i - j)
abbrev oMul : RO := oI CMulX fun i j => .int (i * j)
abbrev oMod : RO := oI (fun _ j => 0 < j) fun i j => .int (i % j)
abbrev oDiv : RO := oI CDivW fun i j => .int (i / j)
abbrev oPow : RO := oI CPow fun i j => .int (i ^ j.toNat)
abbrev oShl : RO := oI CShl fun i j => .int (i * 2 ^ j.toNat)
abbrev oShr : RO := oI (fun _ j => 0 ≤ j) fun i j => .int (i / 2 ^ j.toNat)
abbrev oAnd : RO := oJ fun i j => .int (Builtin.bitAnd i j)
abbrev oLt : RO := oJ fun i j => .bl (decide (i < j))
abbrev oLe : RO := oJ fun i j => .bl (decide (i ≤ j))
abbrev oGt : RO := oJ fun i j => .bl (decide (j < i))
abbrev oGe : RO := oJ fun i j => .bl (decide (j ≤ i))
abbrev oEqI : RO := oJ fun i j => .bl (decide (i = j))
abbrev oNeI : RO := oJ fun i j => .bl (!decide (i = j))
theorem o_add : SO X (binaryOp .Add) oAdd := so_J eo_add
theorem o_sub : SO X (binaryOp .Sub) oSub := so_J eo_sub
theorem o_mul : SO X (binaryOp .Mult) oMul := so_I eo_mulX
theorem o_mod : SO X (binaryOp .Mod) oMod := so_I eo_mod
theorem o_div : SO X (binaryOp .FloorDiv) oDiv := so_I eo_fdiv
theorem o_pow : SO X (binaryOp .Pow) oPow := so_I eo_pow
theorem o_shl : SO X (binaryOp .LShift) oShl := so_I eo_shl
theorem o_shr : SO X (binaryOp .RShift) oShr := so_I eo_shr
theorem o_and : SO X (binaryOp .BitAnd) oAnd := so_J eo_and
theorem o_lt : SO X (compareOp .Lt) oLt := so_J eo_lt
theorem o_le : SO X (compareOp .LtE) oLe := so_J eo_le
theorem o_gt : SO X (compareOp .Gt) oGt := so_J eo_gt
theorem o_ge : SO X (compareOp .GtE) oGe := so_J eo_ge
theorem o_eqI : SO X (compareOp .Eq) oEqI := so_J eo_eqI
theorem o_neI : SO X (compareOp .NotEq) oNeI := so_J eo_neI
theorem i_add : SO X (inplaceOp .Add) oAdd := so_J ip_add
theorem i_sub : SO X (inplaceOp .Sub) oSub := so_J ip_sub
theorem i_shr : SO X (inplaceOp .RShift) oShr := so_I ip_shr
theorem i_mul : SO X (inplaceOp .Mult) (oI CMul fun i j => .int (i * j)) := so_I ip_mul
abbrev oMulI : RO := oI CMul fun i j => .int (i * j)
/-- two texts -/
def oS (f : Str → Str → V) : RO := fun x y H Q => match x, y with
  | .str i, .str j => Q (f i j) H
  | _, _ => False
theorem so_S {g : Value → Value → Sem Value} {f : Str → Str → V} (h : ∀ {i j H}, EO X g (.str i) (.str j) H (f i j)) : SO X g (oS f) := fun x y H Q q => by
  cases x <;> first | exact q.elim | skip
  cases y <;> first | exact q.elim | skip
  exact h.wo q
abbrev oEqS : RO := oS fun i j => .bl (decide (i = j))
abbrev oNeS : RO := oS fun i j => .bl (!decide (i = j))
theorem o_eqS : SO X (compareOp .Eq) oEqS := so_S eo_eqS
theorem o_neS : SO X (compareOp .NotEq) oNeS := so_S eo_neS
/-- scalars of any kind -/
def oEq : RO := fun x y H Q => scal x y = true ∧ Q (.bl (decide (x = y))) H
def oNe : RO := fun x y H Q => scal x y = true ∧ Q (.bl (!decide (x = y))) H
theorem o_eq : SO X (compareOp .Eq) oEq := fun _ _ _ _ q => (eo_eq q.1).wo q.2
theorem o_ne : SO X (compareOp .NotEq) oNe := fun _ _ _ _ q => (eo_ne q.1).wo q.2
def oIs : RO := fun x y H Q => y = .non ∧ Q (.bl (decide (x = .non))) H
def oIsN : RO := fun x y H Q => y = .non ∧ Q (.bl (!decide (x = .non))) H
theorem o_is : SO X (compareOp .Is) oIs := fun _ _ _ _ q => by
  obtain ⟨rfl, q⟩ := q
  exact eo_isN.wo q
theorem o_isN : SO X (compareOp .IsNot) oIsN := fun _ _ _ _ q => by
  obtain ⟨rfl, q⟩ := q
  exact eo_notN.wo q
/-- two lists -/
def oCat : RO := fun x y H Q => ∃ a b xs ys, x = .ref a ∧ y = .ref b ∧ H a = some (.lst xs) ∧ H b = some (.lst ys) ∧ xs.length + ys.length ≤ 1000000 ∧ ∀ p, H p = none → Q (.ref p) (upd H p (.lst (xs ++ ys)))
theorem o_cat : SO X (binaryOp .Add) oCat := fun _ _ _ _ ⟨_, _, _, _, e1, e2, h1, h2, hz, q⟩ => by subst e1; subst e2; exact wo_cat h1 h2 hz q
/-- membership: flat things -/
def oInL (K : PySem.W.Frag) : RO := fun x y H Q => ∃ q xs, y = .ref q ∧ SqL K H q xs ∧ flatV x = true ∧ xs.all flatV = true ∧ Q (.bl (inV x xs)) H
def oInT (K : PySem.W.Frag) : RO := fun x y H Q => ∃ q xs, y = .ref q ∧ SqT K H q xs ∧ flatV x = true ∧ xs.all flatV = true ∧ Q (.bl (inV x xs)) H
def oNiL (K : PySem.W.Frag) : RO := fun x y H Q => ∃ q xs, y = .ref q ∧ SqL K H q xs ∧ flatV x = true ∧ xs.all flatV = true ∧ Q (.bl (!inV x xs)) H
def oNiT (K : PySem.W.Frag) : RO := fun x y H Q => ∃ q xs, y = .ref q ∧ SqT K H q xs ∧ flatV x = true ∧ xs.all flatV = true ∧ Q (.bl (!inV x xs)) H
theorem o_inL : SO X (compareOp .In) (oInL X.K) := fun _ _ _ _ ⟨_, _, e, h, h1, h2, q⟩ => by subst e; exact (eo_inL h h1 h2).wo q
theorem o_inT : SO X (compareOp .In) (oInT X.K) := fun _ _ _ _ ⟨_, _, e, h, h1, h2, q⟩ => by subst e; exact (eo_inT h h1 h2).wo q
theorem o_niL : SO X (compareOp .NotIn) (oNiL X.K) := fun _ _ _ _ ⟨_, _, e, h, h1, h2, q⟩ => by subst e; exact (eo_ninL h h1 h2).wo q
theorem o_niT : SO X (compareOp .NotIn) (oNiT X.K) := fun _ _ _ _ ⟨_, _, e, h, h1, h2, q⟩ => by subst e; exact (eo_ninT h h1 h2).wo q
/-! ## tests, and, or, not, if -/
def tV (t : RX) : RT := fun σ H Q W => t σ H (ob Q) W
theorem b_val (h : SX X j t e) (he : ∀ whole, isTrue e X.env whole = (do let v ← whole; standAt e.pos; holding [v] (truthy v)) := by intro _; rfl) : SB X j (tV t) e := ⟨fun c _ _ _ q => wt_val ((h.run c q).mono fun _ _ q => q.get) he⟩
def tTr (K : PySem.W.Frag) (t : RX) : RT := fun σ H Q W => t σ H (fun x H1 => ∃ k, TruE K x H1 k ∧ Q k H1) W
theorem b_tr (h : SX X j t e) (he : ∀ whole, isTrue e X.env whole = (do let v ← whole; standAt e.pos; holding [v] (truthy v)) := by intro _; rfl) : SB X j (tTr X.K t) e :=
  ⟨fun c σ H Q q => .of (pt_truth pe_W he) fun H2 x2 => (h.run c q).t x2 fun v H3 ⟨H4, x4, k, ht, q⟩ => ⟨k, ht _ x4, H4, x4, q⟩⟩
def tNot (t : RT) : RT := fun σ H Q W => t σ H (fun k H1 => Q (!k) H1) W
theorem b_not (h : SB X j tc a) : SB X j (tNot tc) (.UnaryOp .Not a pos) := ⟨fun c _ _ _ q => wt_not (h.run c q)⟩
def tAnd (t u : RT) : RT := fun σ H Q W => t σ H (fun k H1 => (k = true → u σ H1 Q W) ∧ (k = false → Q false H1)) W
def tOr (t u : RT) : RT := fun σ H Q W => t σ H (fun k H1 => (k = true → Q true H1) ∧ (k = false → u σ H1 Q W)) W
theorem WT.mono {QB QB1 : Bool → Hp → Prop} (w : WT X e σ H QB) (k : ∀ v H, QB v H → QB1 v H) : WT X e σ H QB1 := fun H1 x pins s I => thn (w H1 x pins s I) fun u s' ⟨H2, I2, H3, x3, q⟩ => ⟨H2, I2, H3, x3, k _ _ q⟩
theorem w_and1 (h : SB X j tc a) : SW X j tc (.BoolOp .And [a] pos) := ⟨fun c _ _ _ q => ww_and1 (h.run c q)⟩
theorem w_or1 (h : SB X j tc a) : SW X j tc (.BoolOp .Or [a] pos) := ⟨fun c _ _ _ q => ww_or1 (h.run c q)⟩
theorem w_and (h : SB X j tc a) (h2 : SW X j td (.BoolOp .And (b :: rest) pos)) : SW X j (tAnd tc td) (.BoolOp .And (a :: b :: rest) pos) := ⟨fun c _ _ _ q => ww_and ((h.run c q).mono fun k H q => by
  cases k with
  | true => rw [if_pos rfl]; exact h2.run c (q.1 rfl)
  | false => exact iteF (q.2 rfl))⟩
theorem w_or (h : SB X j tc a) (h2 : SW X j td (.BoolOp .Or (b :: rest) pos)) : SW X j (tOr tc td) (.BoolOp .Or (a :: b :: rest) pos) := ⟨fun c _ _ _ q => ww_or ((h.run c q).mono fun k H q => by
  cases k with
  | true => exact iteT (q.1 rfl)
  | false => rw [if_neg (by decide)]; exact h2.run c (q.2 rfl))⟩
theorem b_ww (h : SW X j tc e) : SB X j tc e := ⟨fun c _ _ _ q => wt_ww (h.run c q)⟩
/-- as values (bools) -/
def rAnd (a b : RX) : RX := fun σ H Q W => a σ H (ob fun k H1 => (k = true → b σ H1 Q W) ∧ (k = false → Q (.bl false) H1)) W
def rOr (a b : RX) : RX := fun σ H Q W => a σ H (ob fun k H1 => (k = true → Q (.bl true) H1) ∧ (k = false → b σ H1 Q W)) W
theorem s_one {op} (h : SX X j t a) : SX X j t (.BoolOp op [a] pos) := ⟨fun c _ _ _ q => we_one (h.run c q)⟩
theorem s_and (h : SX X j ta a) (h2 : SX X j tb (.BoolOp .And (b :: rest) pos)) : SX X j (rAnd ta tb) (.BoolOp .And (a :: b :: rest) pos) := ⟨fun c _ _ _ q => we_andV ((h.run c q).mono fun x H q => by
  obtain ⟨k, rfl, q⟩ := q.get
  refine ⟨k, rfl, ?_⟩
  cases k with
  | true => rw [if_pos rfl]; exact h2.run c (q.1 rfl)
  | false => exact iteF (q.2 rfl))⟩
theorem s_or (h : SX X j ta a) (h2 : SX X j tb (.BoolOp .Or (b :: rest) pos)) : SX X j (rOr ta tb) (.BoolOp .Or (a :: b :: rest) pos) := ⟨fun c _ _ _ q => we_orV ((h.run c q).mono fun x H q => by
  obtain ⟨k, rfl, q⟩ := q.get
  refine ⟨k, rfl, ?_⟩
  cases k with
  | true => exact iteT (q.1 rfl)
  | false => rw [if_neg (by decide)]; exact h2.run c (q.2 rfl))⟩
def rNot (a : RX) : RX := fun σ H Q W => a σ H (ob fun k H1 => Q (.bl (!k)) H1) W
theorem s_not (h : SX X j ta a) : SX X j (rNot ta) (.UnaryOp .Not a pos) := ⟨fun c _ _ _ q => .of (pe_not pe_W) fun H2 x2 => (h.run c q).t x2 fun v H3 ⟨H4, x4, q⟩ => by
  obtain ⟨k, rfl, q⟩ := q.get
  exact ⟨k, rfl, H4, x4, q⟩⟩
def rIf (t : RT) (a b : RX) : RX := fun σ H Q W => t σ H (fun k H1 => (k = true → a σ H1 Q W) ∧ (k = false → b σ H1 Q W)) W
theorem s_if (h : SB X j tc c) (ha : SX X j ta a) (hb : SX X j tb b) : SX X j (rIf tc ta tb) (.IfExp c a b pos) := ⟨fun c _ _ _ q => we_if ((h.run c q).mono fun k H q => by
  cases k with
  | true => rw [if_pos rfl]; exact ha.run c (q.1 rfl)
  | false => rw [if_neg (by decide)]; exact hb.run c (q.2 rfl))⟩
/-! ## arguments, displays, subscripts -/
def aNil : RA := fun _ H Q _ => Q [] H
def aCons (e : RX) (r : RA) : RA := fun σ H Q W => e σ H (fun x H1 => r σ H1 (fun xs H2 => Q (x :: xs) H2) W) W
theorem WA.mono {QA QA1 : List V → Hp → Prop} (w : WA X es σ H QA) (k : ∀ v H, QA v H → QA1 v H) : WA X es σ H QA1 := fun H1 x pos pins s I => thn (w H1 x pos pins s I) fun u s' ⟨v, H2, I2, r, H3, x3, q⟩ => ⟨v, H2, I2, r, H3, x3, k _ _ q⟩
theorem a_nil : SA X j aNil [] := ⟨fun _ _ _ _ q => wa_nil q⟩
theorem a_cons {tr : RA} (h : SX X j t e) (hr : SA X j tr es) (hs : starEach (e :: es) X.env = (false, eval e X.env) :: starEach es X.env := by rfl) : SA X j (aCons t tr) (e :: es) := ⟨fun c _ _ _ q => wa_cons ((h.run c q).mono fun _ _ q => hr.run c q) hs⟩
def rLst (t : RA) : RX := fun σ H Q W => t σ H (fun xs H1 => xs.length ≤ 100000 ∧ ∀ p, H1 p = none → Q (.ref p) (upd H1 p (.lst xs))) W
def rTup (t : RA) : RX := fun σ H Q W => t σ H (fun xs H1 => xs.length ≤ 100000 ∧ ∀ p, H1 p = none → Q (.ref p) (upd H1 p (.tup xs))) W
theorem s_lst {tr : RA} (h : SA X j tr es) : SX X j (rLst tr) (.List es pos) := ⟨fun c _ _ _ q => we_lst ((h.run c q).mono fun _ _ q => ⟨small q.1, q.2⟩)⟩
theorem s_tup {tr : RA} {x1} (h : SA X j tr es) : SX X j (rTup tr) (.Tuple es x1 pos) := ⟨fun c _ _ _ q => we_tup ((h.run c q).mono fun _ _ q => ⟨small q.1, q.2⟩)⟩
def rDct0 : RX := fun _ H Q _ => ∀ p, H p = none → Q (.ref p) (upd H p (.dK []))
theorem s_dct0 : SX X j rDct0 (.Dict [] [] pos) := ⟨fun _ _ _ _ q => en_dict0.we q⟩
def oIxL (K : PySem.W.Frag) : RO := fun x y H Q => ∃ p xs i v, x = .ref p ∧ y = .int i ∧ SqL K H p xs ∧ atI xs i = some v ∧ Q v H
def oIxT (K : PySem.W.Frag) : RO := fun x y H Q => ∃ p xs i v, x = .ref p ∧ y = .int i ∧ SqT K H p xs ∧ atI xs i = some v ∧ Q v H
def oIxS : RO := fun x y H Q => ∃ z i n, x = .str z ∧ y = .int i ∧ z.length ≤ sizeLine ∧ atI z.cps.toList i = some n ∧ Q (.str ⟨#[n]⟩) H
def SI (X : Cx) (r : RO) : Prop := ∃ r0, IxR X r0 ∧ ∀ x y H Q, r x y H Q → ∀ H3, Ex H H3 → r0 x y H3 (up Q)
theorem x_lst : SI X (oIxL X.K) := ⟨_, ix_list, fun _ _ H _ ⟨p, xs, i, v, e1, e2, h, hi, q⟩ H3 x => ⟨p, xs, i, v, e1, e2, x.sqL h, hi, H, x, q⟩⟩
theorem x_tup : SI X (oIxT X.K) := ⟨_, ix_tup, fun _ _ H _ ⟨p, xs, i, v, e1, e2, h, hi, q⟩ H3 x => ⟨p, xs, i, v, e1, e2, x.sqT h, hi, H, x, q⟩⟩
theorem x_str : SI X oIxS := ⟨_, ix_str, fun _ _ H _ ⟨z, i, n, e1, e2, h, hi, q⟩ H3 x => ⟨z, i, n, e1, e2, h, hi, H, x, q⟩⟩
theorem s_ix (hr : SI X r) (ha : SX X j ta a) (hb : SX X j tb b) (hs : PlainIx b := by intro _ _; rfl) : SX X j (rBin r ta tb) (.Subscript a b pos) := by
  obtain ⟨r0, h0, k⟩ := hr
  exact ⟨fun c _ _ _ h => we_ix h0 ((ha.run c h).mono fun _ _ h => (hb.run c h).mono fun _ _ h => k _ _ _ _ h) hs⟩
/-! ## calls -/
def rCall (sp : Sp) (dvs : List V) (t : RA) : RX := fun σ H Q W => t σ H (fun vs H1 => sp (vs ++ dvs) H1 Q fun c d H' => W c d σ H') W
theorem run_fngU {vs dvs : List V} {k : Nat} {f : Addr} {fd : FuncData} {ps : List Str} {sp : Sp} {us ds : List Value} {pins : List (Addr × Obj)} {s : Shared} (F : FnG X.prog X.w X.K X.mg X.base k f fd ps sp) (c : Cn X (upW W) k) (hb : Binds X.K fd ps ds) (hd : Vals dvs ds) (I : Inv X pins σ H1 s) (x : Ex H H1) (r : Vals vs us) (h : sp (vs ++ dvs) H Q fun c d H' => W c d σ H') :
    wpAny (model X.prog X.w) X.A (call (.ref f) us) (EP X pins σ (up Q)) X.xe s := by
  have r2 := r.append hd
  have hl : (us ++ ds).length = ps.length := r2.length.symm.trans (F.len _ _ _ _ h)
  refine wpAny_call (codeAny_mono (F.run X.A X.stack s H1 ⟨us, []⟩ (us ++ ds) (vs ++ dvs) H Q _ c.room c.gd I.env0 (hb s us I.kIn hl) r2 x h) fun res s' q => ?_)
  rcases res with er | fl
  · exact c.tk er s' (XE.of_call I (fun cl d H' ⟨H2, x2, q2⟩ => ⟨H2, x2, q2⟩) q)
  · cases fl with
    | ret u => exact I.after q
    | _ => exact q.elim
theorem s_call {sp : Sp} {k : Nat} {ps : List Str} {dvs : List V} {tr : RA} (C : Cal X.prog X.w X.K X.mg X.base n k ps dvs sp) (h : SA X j tr (e :: es)) (hkj : k ≤ j := by decide) (hg : Gl X n := by rfl) (hdb : (n == ("__debug__" : Str)) = false := by decide)
    (he : starEach (e :: es) X.env = (false, eval e X.env) :: starEach es X.env := by rfl) (hpl : (backTo pos (starEach es X.env)).any (·.1) = false := by rfl) : SX X j (rCall sp dvs tr) (.Call (.Name n p) (e :: es) [] pos) := by
  obtain ⟨f, fd, ds, F, hm, hk, hb, hd, _⟩ := C.ex
  refine ⟨fun c σ H Q q H1 x pins s I => ?_⟩
  refine wpAny_Call_Name_kw (ld_glob I hg hm (PySem.W.callWith_K (h₀ := X.base) I.ok.mod.kin hk (thn (h.run c q H1 x pos pins s I) fun us s1 ⟨vs, H2, I2, r, H3, x3, q⟩ => ⟨I2.kIn, ?_⟩) he hpl) hdb)
  exact run_fngU F (c.mono hkj) hb hd I2 x3 r q
theorem s_call0 {sp : Sp} {k : Nat} {ps : List Str} {dvs : List V} (C : Cal X.prog X.w X.K X.mg X.base n k ps dvs sp) (hkj : k ≤ j := by decide) (hg : Gl X n := by rfl) (hdb : (n == ("__debug__" : Str)) = false := by decide) : SX X j (rCall sp dvs aNil) (.Call (.Name n p) [] [] pos) := by
  obtain ⟨f, fd, ds, F, hm, hk, hb, hd, _⟩ := C.ex
  refine ⟨fun c σ H Q q H1 x pins s I => ?_⟩
  exact wpAny_Call_Name_kw (ld_glob I hg hm (PySem.W.callWith_K0 I.kIn hk (run_fngU (us := []) (vs := []) F (c.mono hkj) hb hd I x .nil q)) hdb)
/-- with keywords -/
def kNil : RA := aNil
def rCallK (sp : Sp) (gV : List V → List V → List V) (t tk : RA) : RX := fun σ H Q W => t σ H (fun vs H1 => tk σ H1 (fun zs H2 => sp (gV vs zs) H2 Q fun c d H' => W c d σ H') W) W
theorem k_nil : SK X j aNil [] := ⟨fun _ _ _ _ q => wk_nil q⟩
theorem k_cons {kws : List Keyword} {nm : Option Str} {kpos : Pos} {tr : RA} (h : SX X j t e) (hr : SK X j tr kws) : SK X j (aCons t tr) (⟨nm, e, kpos⟩ :: kws) := ⟨fun c _ _ _ q => wk_cons ((h.run c q).mono fun _ _ q => hr.run c q)⟩
end
section
variable {X : Cx} {j : Nat} {W W1 : WX} {e a b c tg iter : Expr} {es rest tgs : List Expr} {st : Stmt} {sts body : List Stmt} {σ : St} {H H1 : Hp} {Q : VK} {D : Ends} {pos p pos' pos2 : Pos} {t ta tb : RX} {tc td : RT} {r : RO} {n : Str} {i : Nat} {zs zt : RS} {tr : RA} {rc : RC} {g g2 : RG} {gs : RGs}
/-! ## builtins by name -/
def rB (r : RC) (t : RA) : RX := fun σ H Q W => t σ H (fun vs H1 => r vs H1 Q) W
theorem s_bi {id : String} (hc : SC X (.builtin id) rc) (hm : X.mg n = none) (hv : bootBuiltins n = some (.builtin id)) (ha : SA X j tr (e :: es)) (hg : Gl X n := by rfl) (hn : n ≠ "__name__" := by decide) (hdb : (n == ("__debug__" : Str)) = false := by decide)
    (he : starEach (e :: es) X.env = (false, eval e X.env) :: starEach es X.env := by rfl) (hpl : (backTo pos (starEach es X.env)).any (·.1) = false := by rfl) : SX X j (rB rc tr) (.Call (.Name n p) (e :: es) [] pos) :=
  ⟨fun c _ _ _ q => we_callB hm hv ((ha.run c q).mono fun _ _ q => hc _ _ _ q) hg hn hdb he hpl⟩
theorem s_bt {T : String} (hc : SC X (.type T) rc) (hm : X.mg n = none) (hv : bootBuiltins n = some (.type T)) (ha : SA X j tr (e :: es)) (hg : Gl X n := by rfl) (hn : n ≠ "__name__" := by decide) (hdb : (n == ("__debug__" : Str)) = false := by decide)
    (he : starEach (e :: es) X.env = (false, eval e X.env) :: starEach es X.env := by rfl) (hpl : (backTo pos (starEach es X.env)).any (·.1) = false := by rfl) : SX X j (rB rc tr) (.Call (.Name n p) (e :: es) [] pos) :=
  ⟨fun c _ _ _ q => we_callTy hm hv ((ha.run c q).mono fun _ _ q => hc _ _ _ q) hg hn hdb he hpl⟩
/-- one value -/
def c1 (f : V → Hp → VK → Prop) : RC := fun vs H Q => match vs with
  | [x] => f x H Q
  | _ => False
def c2 (f : V → V → Hp → VK → Prop) : RC := fun vs H Q => match vs with
  | [x, y] => f x y H Q
  | _ => False
theorem sc1 {fn : Value} {f : V → Hp → VK → Prop} (h : ∀ x H Q, f x H Q → WC X fn [x] H Q) : SC X fn (c1 f) := fun xs H Q q => by
  cases xs with
  | nil => exact q.elim
  | cons x r => cases r with
    | nil => exact h _ _ _ q
    | cons _ _ => exact q.elim
theorem sc2 {fn : Value} {f : V → V → Hp → VK → Prop} (h : ∀ x y H Q, f x y H Q → WC X fn [x, y] H Q) : SC X fn (c2 f) := fun xs H Q q => by
  cases xs with
  | nil => exact q.elim
  | cons x r => cases r with
    | nil => exact q.elim
    | cons y r => cases r with
      | nil => exact h _ _ _ _ q
      | cons _ _ => exact q.elim
def vI (k : Int → Hp → VK → Prop) : V → Hp → VK → Prop := fun x H Q => match x with
  | .int i => k i H Q
  | _ => False
def cAbs : RC := c1 (vI fun i H Q => Q (.int (if i < 0 then -i else i)) H)
theorem c_abs : SC X (.builtin "abs") cAbs := sc1 fun x H Q q => by
  cases x <;> first | exact ec_abs.wc q | exact q.elim
def cMax : RC := c2 (oJ fun i j => .int (if j > i then j else i))
def cMin : RC := c2 (oJ fun i j => .int (if j < i then j else i))
theorem c_max (hc : X.calm = true := by rfl) : SC X (.builtin "max") cMax := sc2 fun x y H Q q => by
  cases x <;> first | exact q.elim | skip
  cases y <;> first | exact q.elim | skip
  exact (ec_max hc).wc q
theorem c_min (hc : X.calm = true := by rfl) : SC X (.builtin "min") cMin := sc2 fun x y H Q q => by
  cases x <;> first | exact q.elim | skip
  cases y <;> first | exact q.elim | skip
  exact (ec_min hc).wc q
def cLenL (K : PySem.W.Frag) : RC := c1 fun x H Q => ∃ p xs, x = .ref p ∧ SqL K H p xs ∧ Q (.int xs.length) H
def cLenT (K : PySem.W.Frag) : RC := c1 fun x H Q => ∃ p xs, x = .ref p ∧ SqT K H p xs ∧ Q (.int xs.length) H
def cLenD : RC := c1 fun x H Q => ∃ p kvs, x = .ref p ∧ H p = some (.dK kvs) ∧ Q (.int kvs.length) H
def cLenS : RC := c1 fun x H Q => ∃ z, x = .str z ∧ z.length ≤ sizeLine ∧ Q (.int z.length) H
theorem c_lenL : SC X (.builtin "len") (cLenL X.K) := sc1 fun x H Q ⟨p, xs, e, h, q⟩ => by subst e; exact (ec_lenL h).wc q
theorem c_lenT : SC X (.builtin "len") (cLenT X.K) := sc1 fun x H Q ⟨p, xs, e, h, q⟩ => by subst e; exact (ec_lenT h).wc q
theorem c_lenD : SC X (.builtin "len") cLenD := sc1 fun x H Q ⟨p, xs, e, h, q⟩ => by subst e; exact (ec_lenD h).wc q
theorem c_lenS : SC X (.builtin "len") cLenS := sc1 fun x H Q ⟨p, e, h, q⟩ => by subst e; exact (ec_lenS h).wc q
def cSum (K : PySem.W.Frag) : RC := c1 fun x H Q => ∃ (p : Addr) (ns : List Int), x = .ref p ∧ SqL K H p (ns.map V.int) ∧ Q (.int ns.sum) H
def cSumB (K : PySem.W.Frag) : RC := c1 fun x H Q => ∃ (p : Addr) (bs : List Bool), x = .ref p ∧ SqL K H p (bs.map V.bl) ∧ bs.length ≤ 1000000 ∧ Q (.int (bs.map b2n).sum) H
def cAll (K : PySem.W.Frag) : RC := c1 fun x H Q => ∃ (p : Addr) (ns : List Bool), x = .ref p ∧ SqL K H p (ns.map V.bl) ∧ Q (.bl (ns.all id)) H
def cAny (K : PySem.W.Frag) : RC := c1 fun x H Q => ∃ (p : Addr) (ns : List Bool), x = .ref p ∧ SqL K H p (ns.map V.bl) ∧ Q (.bl (ns.any id)) H
theorem c_sum (hc : X.calm = true := by rfl) : SC X (.builtin "sum") (cSum X.K) := sc1 fun x H Q ⟨p, xs, e, h, q⟩ => by subst e; exact (ec_sum h hc).wc q
theorem c_sumB (hc : X.calm = true := by rfl) : SC X (.builtin "sum") (cSumB X.K) := sc1 fun x H Q ⟨p, xs, e, h, hn, q⟩ => by subst e; exact (ec_sumB h hn hc).wc q
theorem c_all (hc : X.calm = true := by rfl) : SC X (.builtin "all") (cAll X.K) := sc1 fun x H Q ⟨p, xs, e, h, q⟩ => by subst e; exact (ec_all h hc).wc q
theorem c_any (hc : X.calm = true := by rfl) : SC X (.builtin "any") (cAny X.K) := sc1 fun x H Q ⟨p, xs, e, h, q⟩ => by subst e; exact (ec_any h hc).wc q
def cDivmod : RC := c2 fun x y H Q => match x, y with
  | .int i, .int j => CDivP i j ∧ ∀ p, H p = none → Q (.ref p) (upd H p (.tup [.int (i / j), .int (i % j)]))
  | _, _ => False
theorem c_divmod : SC X (.builtin "divmod") cDivmod := sc2 fun x y H Q q => by
  cases x <;> first | exact q.elim | skip
  cases y <;> first | exact q.elim | skip
  exact (cn_divmod q.1).wc q.2
def cListL (K : PySem.W.Frag) : RC := c1 fun x H Q => ∃ p xs, x = .ref p ∧ SqL K H p xs ∧ ∀ q, H q = none → Q (.ref q) (upd H q (.lst xs))
def cListT (K : PySem.W.Frag) : RC := c1 fun x H Q => ∃ p xs, x = .ref p ∧ SqT K H p xs ∧ ∀ q, H q = none → Q (.ref q) (upd H q (.lst xs))
def cTupL (K : PySem.W.Frag) : RC := c1 fun x H Q => ∃ p xs, x = .ref p ∧ SqL K H p xs ∧ ∀ q, H q = none → Q (.ref q) (upd H q (.tup xs))
def cTupT (K : PySem.W.Frag) : RC := c1 fun x H Q => ∃ p xs, x = .ref p ∧ SqT K H p xs ∧ Q x H
theorem c_listL : SC X (.type "list") (cListL X.K) := sc1 fun x H Q ⟨p, xs, e, h, q⟩ => by subst e; exact (cn_listL h).wc q
theorem c_listT : SC X (.type "list") (cListT X.K) := sc1 fun x H Q ⟨p, xs, e, h, q⟩ => by subst e; exact (cn_listT h).wc q
theorem c_tupL : SC X (.type "tuple") (cTupL X.K) := sc1 fun x H Q ⟨p, xs, e, h, q⟩ => by subst e; exact (cn_tupleL h).wc q
theorem c_tupT : SC X (.type "tuple") (cTupT X.K) := sc1 fun x H Q ⟨p, xs, e, h, q⟩ => by subst e; exact (ec_tupleT h).wc q
def cInt : RC := c1 fun x H Q => match x with
  | .int i => Q (.int i) H
  | .bl k => Q (.int (if k = true then 1 else 0)) H
  | _ => False
theorem c_int : SC X (.type "int") cInt := sc1 fun x H Q q => by
  cases x <;> first | exact ec_intI.wc q | exact ec_intB.wc q | exact q.elim
def cIsT : RC := c2 fun x y H Q => ∃ T U, Ty H x T ∧ y = .ty U ∧ (U = "int" ∨ U = "bool" ∨ U = "str" ∨ U = "list" ∨ U = "tuple" ∨ U = "dict") ∧ Q (.bl (tyIs T U)) H
theorem c_isT : SC X (.builtin "isinstance") cIsT := sc2 fun x y H Q ⟨T, U, h, e, hU, q⟩ => by subst e; exact (ec_isT h hU).wc q
def cRepr (K : PySem.W.Frag) : RC := c1 fun x H Q => ∃ d, Dp K H x d ∧ RpOk d ∧ Q (.str d.shown) H
theorem s_repr (hm : X.mg "repr" = none) (ha : SA X j tr [e]) (hg : Gl X "repr" := by rfl) (he : starEach [e] X.env = (false, eval e X.env) :: starEach [] X.env := by rfl) (hpl : (backTo pos (starEach [] X.env)).any (·.1) = false := by rfl) : SX X j (rB (cRepr X.K) tr) (.Call (.Name "repr" p) [e] [] pos) :=
  ⟨fun c _ _ _ q => we_callB hm PyProof.Rows.boot_repr ((ha.run c q).mono fun vs H q => by
    cases vs with
    | nil => exact q.elim
    | cons x r => cases r with
      | nil =>
        obtain ⟨d, h, ok, q⟩ := q
        exact (ec_repr c h ok).wc q
      | cons _ _ => exact q.elim) hg (by decide) (by decide) he hpl⟩
/-- n.bit_length() -/
def rBits (t : RX) : RX := fun σ H Q W => t σ H (fun x H1 => vI (fun i H Q => Q (.int (Builtin.Int.intBits i : Nat)) H) x H1 Q) W
theorem s_bits {apos : Pos} (ha : SX X j ta a) (hbase : attributeBase a "bit_length" X.env (eval a X.env) = eval a X.env := by rfl) (hline : (apos.endLine == pos.line) = true := by rfl) : SX X j (rBits ta) (.Call (.Attribute a "bit_length" apos) [] [] pos) := ⟨fun c _ _ _ q =>
  .of (pe_bits pe_W hbase hline) fun H2 x2 => (ha.run c q).t x2 fun v H3 ⟨H4, x4, q⟩ => by
    cases v <;> first | exact ⟨_, rfl, H4, x4, q⟩ | exact q.elim⟩
/-! ## methods of lists -/
def rAppend (o e : RX) : RX := fun σ H Q W => o σ H (fun v H1 => e σ H1 (fun y H2 => ∃ l ys, v = .ref l ∧ (∃ xs, H1 l = some (.lst xs)) ∧ H2 l = some (.lst ys) ∧ ys.length ≤ 100000 ∧ Q .non (upd H2 l (.lst (ys ++ [y])))) W) W
/-- the receiver is a name -/
def rAppV (i : Nat) (e : RX) : RX := fun σ H Q W => match slot σ i with
  | some (.ref l) => (∃ xs, H l = some (.lst xs)) ∧ e σ H (fun y H2 => ∃ ys, H2 l = some (.lst ys) ∧ ys.length ≤ 100000 ∧ Q .non (upd H2 l (.lst (ys ++ [y])))) W
  | _ => False
theorem s_appV {apos cpos : Pos} (hN : X.N[i]? = some n) (hv : Vis X.env.scope n) (he : SX X j t e) (hd : (n == ("__debug__" : Str)) = false := by decide) (hcd : (n == ("__classdict__" : Str)) = false := by decide)
    (hbase : attributeBase (.Name n p) "append" X.env (eval (.Name n p) X.env) = eval (.Name n p) X.env := by rfl)
    (hfew : ((backTo cpos (starEach [e] X.env)).all (fun x => !x.1) && (backToKw cpos (keywordEach [] X.env)).all (fun x => x.1.isSome)
      && decide ([e].length + ([] : List Keyword).length + (if ([] : List Keyword).isEmpty then 0 else 1) < 30)) = true := by rfl)
    (hline : (apos.endLine == cpos.line) = true := by rfl) (hs : starEach [e] X.env = (false, eval e X.env) :: starEach [] X.env := by rfl) (hplain : (backTo cpos (starEach [] X.env)).any (·.1) = false := by rfl) :
    SX X j (rAppV i t) (.Call (.Attribute (.Name n p) "append" apos) [e] [] cpos) := ⟨fun c _ _ _ q => by
  unfold rAppV at q
  split at q
  · rename_i l h
    obtain ⟨⟨xs, hl⟩, q⟩ := q
    exact we_append (ev_var hN hv (slot_get h) hd hcd) hl (he.run c q) hbase hfew hline hs hplain
  · exact q.elim⟩
def rExtV (i : Nat) (e : RX) : RX := fun σ H Q W => match slot σ i with
  | some (.ref l) => (∃ xs, H l = some (.lst xs)) ∧ e σ H (fun y H2 => ∃ b ys zs, y = .ref b ∧ H2 l = some (.lst ys) ∧ H2 b = some (.lst zs) ∧ ys.length + zs.length ≤ 1000000 ∧ Q .non (upd H2 l (.lst (ys ++ zs)))) W
  | _ => False
theorem s_extV {apos cpos : Pos} (hN : X.N[i]? = some n) (hv : Vis X.env.scope n) (he : SX X j t e) (hd : (n == ("__debug__" : Str)) = false := by decide) (hcd : (n == ("__classdict__" : Str)) = false := by decide)
    (hbase : attributeBase (.Name n p) "extend" X.env (eval (.Name n p) X.env) = eval (.Name n p) X.env := by rfl)
    (hfew : ((backTo cpos (starEach [e] X.env)).all (fun x => !x.1) && (backToKw cpos (keywordEach [] X.env)).all (fun x => x.1.isSome)
      && decide ([e].length + ([] : List Keyword).length + (if ([] : List Keyword).isEmpty then 0 else 1) < 30)) = true := by rfl)
    (hline : (apos.endLine == cpos.line) = true := by rfl) (hs : starEach [e] X.env = (false, eval e X.env) :: starEach [] X.env := by rfl) (hplain : (backTo cpos (starEach [] X.env)).any (·.1) = false := by rfl) :
    SX X j (rExtV i t) (.Call (.Attribute (.Name n p) "extend" apos) [e] [] cpos) := ⟨fun c _ _ _ q => by
  unfold rExtV at q
  split at q
  · rename_i l h
    obtain ⟨⟨xs, hl⟩, q⟩ := q
    exact we_extend (ev_var hN hv (slot_get h) hd hcd) hl (he.run c q) hbase hfew hline hs hplain
  · exact q.elim⟩
/-! ## statements -/
def zNil : RS := fun D _ σ H => D.nx σ H
def zCons (s r : RS) : RS := fun D W σ H => s { D with nx := fun σ' H' => r D W σ' H' } W σ H
theorem WS.nx {D : Ends} {M : St → Hp → Prop} (h : WS X st { D with nx := M } σ H) (k : ∀ σ' H', M σ' H' → D.nx σ' H') : WS X st D σ H := WS.le h (.i (fun _ _ m => k _ _ m) (fun _ _ q => q) (fun _ _ q => q) fun _ _ q => q)
theorem z_nil : SSs X j zNil [] := ⟨fun _ _ _ _ _ q => wss_nil q⟩
theorem z_cons (h : SS X j zs st) (hr : SSs X j zt sts) : SSs X j (zCons zs zt) (st :: sts) := ⟨fun {W} c o D σ H q => wss_cons (WS.nx (h.run c o q) fun _ _ q => hr.run c o q)⟩
theorem z_one (h : SS X j zs st) : SSs X j zs [st] := ⟨fun c o _ _ _ q => wss_one (h.run c o q)⟩
def zPass : RS := fun D _ σ H => D.nx σ H
def zBreak : RS := fun D _ σ H => D.bk σ H
def zCont : RS := fun D _ σ H => D.ct σ H
theorem z_pass : SS X j zPass (.Pass pos) := ⟨fun _ _ _ _ _ q => ws_pass q⟩
theorem z_break : SS X j zBreak (.Break pos) := ⟨fun _ _ _ _ _ q => ws_break q⟩
theorem z_cont : SS X j zCont (.Continue pos) := ⟨fun _ _ _ _ _ q => ws_continue q⟩
theorem z_doc {s : Str} {k} : SS X j zPass (.Expr (.Constant (.str s) k pos) pos') := ⟨fun _ _ _ _ _ q => ws_doc q⟩
def zExpr (e : RX) : RS := fun D W σ H => e σ H (fun _ H1 => D.nx σ H1) W
theorem z_expr (h : SX X j t e) (hs : swapsWith e none pos.line X.env = pure false := by rfl) : SS X j (zExpr t) (.Expr e pos) := ⟨fun c _ _ _ _ q => ws_expr (h.run c q) hs⟩
def zRet (e : RX) : RS := fun D W σ H => e σ H D.rt W
theorem z_ret (h : SX X j t e) : SS X j (zRet t) (.Return (some e) pos) := ⟨fun c _ _ _ _ q => ws_ret (h.run c q)⟩
def zRetN : RS := fun D _ _ H => D.rt .non H
theorem z_retN : SS X j zRetN (.Return none pos) := ⟨fun _ _ _ _ _ q => ws_retN q⟩
def zIf (t : RT) (a b : RS) : RS := fun D W σ H => t σ H (fun k H1 => (k = true → a D W σ H1) ∧ (k = false → b D W σ H1)) W
theorem z_if (h : SB X j tc c) (ha : SSs X j zs sts) (hb : SSs X j zt body) : SS X j (zIf tc zs zt) (.If c sts body pos) := ⟨fun cn o _ _ _ q => ws_if ((h.run cn q).mono fun k H q => by
  cases k with
  | true => rw [if_pos rfl]; exact ha.run cn o (q.1 rfl)
  | false => rw [if_neg (by decide)]; exact hb.run cn o (q.2 rfl))⟩
def zSet (i : Nat) (e : RX) : RS := fun D W σ H => e σ H (fun x H1 => D.nx (put σ i x) H1) W
theorem z_set (hN : X.N.Nodup) (hi : X.N[i]? = some n) (h : SX X j t e) (hx : Loc X.env.scope n := by first | exact .inl rfl | exact .inr rfl) (hs : swapsWith e (some (.Name n pos')) pos.line X.env = pure false := by rfl)
    (hf : X.fn n = true ∨ X.env.scope.names.lookup n = some .local := by first | exact .inl rfl | exact .inr rfl | assumption) : SS X j (zSet i t) (.Assign [.Name n pos'] e pos) :=
  ⟨fun c _ _ _ _ q => ws_set hN hi ((h.run c q).mono fun _ _ q => by rw [← put_set]; exact q) hx hs hf⟩
def zAug (i : Nat) (r : RO) (e : RX) : RS := fun D W σ H => match slot σ i with
  | some x => e σ H (fun y H1 => r x y H1 fun z H2 => D.nx (put σ i z) H2) W
  | none => False
theorem z_aug {op : Operator} (ho : SO X (inplaceOp op) r) (hN : X.N.Nodup) (hi : X.N[i]? = some n) (h : SX X j t e) (hl : Loc X.env.scope n := by first | exact .inl rfl | exact .inr rfl)
    (hf : X.fn n = true ∨ X.env.scope.names.lookup n = some .local := by first | exact .inl rfl | exact .inr rfl | assumption) : SS X j (zAug i r t) (.AugAssign (.Name n pos') op e pos) := ⟨fun c _ _ _ _ q => by
  unfold zAug at q
  split at q
  · rename_i x hs
    exact ws_aug hN hi (slot_get hs) ((h.run c q).mono fun _ _ q => ho _ _ _ _ (by simpa only [put_set] using q)) hl hf
  · exact q.elim⟩
/-! ## targets -/
def gName (i : Nat) : RG := fun v σ H R _ => R (put σ i v) H
theorem g_name (hN : X.N.Nodup) (hi : X.N[i]? = some n) (hx : Loc X.env.scope n := by first | exact .inl rfl | exact .inr rfl) (hf : X.fn n = true ∨ X.env.scope.names.lookup n = some .local := by first | exact .inl rfl | exact .inr rfl | assumption) : SG X j (gName i) (.Name n pos) :=
  ⟨fun c _ _ _ _ q => wg_name hN hi (by rw [← put_set]; exact q) hx hf⟩
def gNil : RGs := fun vs σ H R _ => vs = [] ∧ R σ H
def gCons (g : RG) (r : RGs) : RGs := fun vs σ H R W => match vs with
  | v :: vs => g v σ H (fun σ1 H1 => r vs σ1 H1 R W) W
  | [] => False
theorem gs_nil : SGs X j gNil [] := ⟨fun c _ _ _ _ q => by
  obtain ⟨rfl, q⟩ := q
  exact wgs_nil q⟩
theorem gs_cons (h : SG X j g tg) (hr : SGs X j gs tgs) (hs : (assignEach (tg :: tgs) X.env).map (·.2) = assign tg X.env :: (assignEach tgs X.env).map (·.2) := by rfl) : SGs X j (gCons g gs) (tg :: tgs) := ⟨fun c v _ _ _ q => by
  cases v with
  | nil => exact q.elim
  | cons v vs => exact wgs_cons ((h.run c q).mono fun _ _ q => hr.run c q) hs⟩
def gTup (K : PySem.W.Frag) (n : Nat) (g : RGs) : RG := fun v σ H R W => ∃ t vs, v = .ref t ∧ (SqT K H t vs ∨ SqL K H t vs) ∧ vs.length = n ∧ g vs σ H R W
theorem g_tup {k : Nat} (h : SGs X j gs tgs) (hc : X.calm = true := by rfl) (hst : (assignEach tgs X.env).findIdx? (·.1) = none := by rfl) : SG X j (gTup X.K (assignEach tgs X.env).length gs) (.Tuple tgs k pos) := ⟨fun c _ _ _ _ ⟨t, vs, e, hs, hl, q⟩ => by
  subst e
  rcases hs with hs | hs
  · exact wg_tup hs (h.run c q) hc hl.symm hst
  · exact wg_lst hs (h.run c q) hc hl.symm hst⟩
def zAsg (e : RX) (g : RG) : RS := fun D W σ H => e σ H (fun x H1 => g x σ H1 D.nx W) W
theorem z_asg (h : SX X j t e) (hg : SG X j g tg) (hs : swapsWithSole [tg] e pos.line X.env = pure false := by rfl) (hw : swappedStores [tg] e X.env = pure none := by rfl)
    (h1 : (assignEach [tg] X.env).map (·.2) = [assign tg X.env] := by rfl) : SS X j (zAsg t g) (.Assign [tg] e pos) := ⟨fun c _ _ _ _ q => ws_asg ((h.run c q).mono fun _ _ q => hg.run c q) hs hw h1⟩
/-- a, b = x, y -/
def zPar (i l : Nat) (t : RA) : RS := fun D W σ H => t σ H (fun vs H1 => match vs with
  | [v, w] => D.nx (put (put σ i v) l w) H1
  | _ => False) W
theorem z_par {l : Nat} {y : Str} {px py pt pt2 : Pos} {kt k2} (hN : X.N.Nodup) (hi : X.N[i]? = some n) (hj : X.N[l]? = some y) (ha : SA X j tr [a, b]) (hij : i ≠ l := by decide) (hc : X.calm = true := by rfl)
    (hx : X.env.scope.names.lookup n = some .local := by rfl) (hy : X.env.scope.names.lookup y = some .local := by rfl)
    (hw : swappedStores [.Tuple [.Name n px, .Name y py] kt pt] (.Tuple [a, b] k2 pt2) X.env = pure (some [n, y]) := by rfl)
    (hs : swapsWithSole [.Tuple [.Name n px, .Name y py] kt pt] (.Tuple [a, b] k2 pt2) pos.line X.env = pure false := by rfl) :
    SS X j (zPar i l tr) (.Assign [.Tuple [.Name n px, .Name y py] kt pt] (.Tuple [a, b] k2 pt2) pos) := ⟨fun c _ _ _ _ q => ws_par hN hi hj ((ha.run c q).mono fun vs H q => by
      match vs, q with
      | [v, w], q => exact ⟨v, w, rfl, by simpa only [put_set] using q⟩) hij hc hx hy hw hs⟩
def zPar3 (i l m : Nat) (t : RA) : RS := fun D W σ H => t σ H (fun vs H1 => match vs with
  | [u, v, w] => D.nx (put (put (put σ i u) l v) m w) H1
  | _ => False) W
theorem z_par3 {l m : Nat} {y z : Str} {px py pz pt pt2 : Pos} {kt k2} (hN : X.N.Nodup) (hi : X.N[i]? = some n) (hj : X.N[l]? = some y) (hl : X.N[m]? = some z) (ha : SA X j tr [a, b, c]) (hij : i ≠ l := by decide) (hil : i ≠ m := by decide) (hjl : l ≠ m := by decide) (hc : X.calm = true := by rfl)
    (hx : X.env.scope.names.lookup n = some .local := by rfl) (hy : X.env.scope.names.lookup y = some .local := by rfl) (hz : X.env.scope.names.lookup z = some .local := by rfl)
    (hw : swappedStores [.Tuple [.Name n px, .Name y py, .Name z pz] kt pt] (.Tuple [a, b, c] k2 pt2) X.env = pure (some [n, y, z]) := by rfl)
    (hs : swapsWithSole [.Tuple [.Name n px, .Name y py, .Name z pz] kt pt] (.Tuple [a, b, c] k2 pt2) pos.line X.env = pure false := by rfl) :
    SS X j (zPar3 i l m tr) (.Assign [.Tuple [.Name n px, .Name y py, .Name z pz] kt pt] (.Tuple [a, b, c] k2 pt2) pos) := ⟨fun c _ _ _ _ q => ws_par3 hN hi hj hl ((ha.run c q).mono fun vs H q => by
      match vs, q with
      | [u, v, w], q => exact ⟨u, v, w, rfl, by simpa only [put_set] using q⟩) hij hil hjl hc hx hy hz hw hs⟩
/-- o[i] = v -/
def gIxL (o i : RX) : RG := fun v σ H R W => o σ H (fun x H1 => i σ H1 (fun y H2 => ∃ q xs i k, x = .ref q ∧ y = .int i ∧ H2 q = some (.lst xs) ∧ ixN xs.length i = some k ∧ R σ (upd H2 q (.lst (xs.set k v)))) W) W
theorem g_ixL (ho : SX X j ta a) (hi : SX X j tb b) (ha : ∀ v, assign (.Subscript a b pos) X.env v = (do
      let ov ← holding [v] (eval a X.env)
      let iv ← holding [v, ov] (eval b X.env)
      standAt pos
      holding [v, ov, iv] (setItem ov iv v)
      release [v, ov, iv] []) := by intro _; rfl) : SG X j (gIxL ta tb) (.Subscript a b pos) := ⟨fun c v _ _ _ q =>
  .of (pg_sub pe_W pe_W set_list ha) fun H1 x => (ho.run c q).t x fun o H2 ⟨H2', x2, q⟩ => (hi.run c q).t x2 fun y H3 ⟨H3', x3, p, xs, i, k, e1, e2, h1, h2, q⟩ => ⟨p, xs, i, k, e1, e2, x3 _ _ h1, h2, _, x3.set p _, q⟩⟩
def gIxD (o i : RX) : RG := fun v σ H R W => o σ H (fun x H1 => i σ H1 (fun y H2 => ∃ q kvs kx, x = .ref q ∧ y = kV kx ∧ H2 q = some (.dK kvs) ∧ kvs.length < 100000 ∧ R σ (upd H2 q (.dK (putK kvs kx v)))) W) W
theorem g_ixD (ho : SX X j ta a) (hi : SX X j tb b) (ha : ∀ v, assign (.Subscript a b pos) X.env v = (do
      let ov ← holding [v] (eval a X.env)
      let iv ← holding [v, ov] (eval b X.env)
      standAt pos
      holding [v, ov, iv] (setItem ov iv v)
      release [v, ov, iv] []) := by intro _; rfl) : SG X j (gIxD ta tb) (.Subscript a b pos) := ⟨fun c v _ _ _ q =>
  .of (pg_sub pe_W pe_W (set_dict (hu_of c.room)) ha) fun H1 x => (ho.run c q).t x fun o H2 ⟨H2', x2, q⟩ => (hi.run c q).t x2 fun y H3 ⟨H3', x3, p, kvs, kx, e1, e2, h1, h2, q'⟩ => by
    subst e1; subst e2
    exact ⟨p, _, rfl, DPut.k (k := kx) (x3 _ _ h1) (Nat.lt_of_lt_of_le h2 (by decide)), _, x3.set p _, q'⟩⟩
/-! ## raise -/
def zRaise (C : Addr) (t : RA) : RS := fun D W σ H => t σ H (fun vs H1 => vs.length ≤ 1000 ∧ W (.ref C) none σ H1) W
theorem z_raise {C : Addr} (T : ErrC X.K X.mg n C) (ha : SA X j tr (e :: es)) (hg : Gl X n := by rfl) (hdb : (n == ("__debug__" : Str)) = false := by decide)
    (he : starEach (e :: es) X.env = (false, eval e X.env) :: starEach es X.env := by rfl) (hpl : (backTo pos (starEach es X.env)).any (·.1) = false := by rfl) (hc : X.calm = true := by rfl) : SS X j (zRaise C tr) (.Raise (some (.Call (.Name n p) (e :: es) [] pos)) none pos') :=
  ⟨fun c _ _ _ _ q => ws_raise c (wm_err T ((ha.run c q).mono fun _ _ q => ⟨q.1, ⟨_, Ex.refl _, q.2⟩⟩) hg hdb he hpl) hc⟩
/-! ## loops -/
structure ItOk (J : It) (n : Nat) (G : Hp → Prop) (Y : Nat → Hp → VK → Prop) : Prop where
  ex : ∃ G0 Y0, Walk J n G0 Y0 ∧ (∀ H H1, G H → Ex H H1 → G0 H1) ∧ ∀ i H H1 x H1' K, i < n → Ex H H1 → Y0 i H1 x H1' → Y i H K → up K x H1'
abbrev RI := St → Hp → (Nat → (Hp → Prop) → (Nat → Hp → VK → Prop) → Hp → Prop) → WX → Prop
structure SIt (X : Cx) (j : Nat) (t : RI) (tg iter : Expr) : Prop where
  ex : ∃ wi, PI X tg iter wi ∧ ∀ {W}, Cn X (upW W) j → ∀ {σ H R}, t σ H R W → ∀ H1, Ex H H1 → ∀ F : It → Hp → Prop, (∀ J H2 H' n G Y, Ex H' H2 → ItOk J n G Y → R n G Y H' → F J H2) → wi σ H1 F
def yAt (xs : List V) : Nat → Hp → VK → Prop := fun i H k => ∀ x, xs[i]? = some x → k x H
theorem ItOk.at {J : It} {n : Nat} {G : Hp → Prop} {xs : List V} (w : Walk J n G (YAt xs)) (hG : ∀ H H1, G H → Ex H H1 → G H1) : ItOk J n G (yAt xs) := ⟨_, _, w, hG, fun i H H1 x H1' K hi e y q => by
  obtain ⟨rfl, y⟩ := y
  exact ⟨H, e, q x y⟩⟩
def iL (K : PySem.W.Frag) (e : RX) : RI := fun σ H R W => e σ H (fun x H1 => ∃ a xs, x = .ref a ∧ SqL K H1 a xs ∧ R xs.length (fun H => SqL K H a xs) (yAt xs) H1) W
theorem i_L (h : SX X j t iter) : SIt X j (iL X.K t) tg iter := ⟨_, pi_list pe_W, fun c σ H R q H1 x F k => (h.run c q).t x fun v H2 ⟨H3, x3, a, xs, e, hs, q⟩ => ⟨a, e, ⟨xs, x3.sqL hs⟩, k _ _ _ _ _ _ x3 (.at walk_list fun _ _ h x => x.sqL h) q⟩⟩
def iT (K : PySem.W.Frag) (e : RX) : RI := fun σ H R W => e σ H (fun x H1 => ∃ a xs, x = .ref a ∧ SqT K H1 a xs ∧ R xs.length (fun H => SqT K H a xs) (yAt xs) H1) W
theorem i_T (h : SX X j t iter) : SIt X j (iT X.K t) tg iter := ⟨_, pi_tup pe_W, fun c σ H R q H1 x F k => (h.run c q).t x fun v H2 ⟨H3, x3, a, xs, e, hs, q⟩ => ⟨a, e, ⟨xs, x3.sqT hs⟩, k _ _ _ _ _ _ x3 (.at walk_tup fun _ _ h x => x.sqT h) q⟩⟩
def yRg (lo : Int) : Nat → Hp → VK → Prop := fun i H k => k (.int (lo + i)) H
def iR1 (t : RA) : RI := fun σ H R W => t σ H (fun vs H1 => match vs with
  | [.int n] => (-(2 ^ 62) ≤ n ∧ n < 2 ^ 62) ∧ R n.toNat (fun _ => True) (fun i H k => k (.int i) H) H1
  | _ => False) W
def iR2 (t : RA) : RI := fun σ H R W => t σ H (fun vs H1 => match vs with
  | [.int l, .int n] => (-(2 ^ 62) ≤ l ∧ l < 2 ^ 62 ∧ -(2 ^ 62) ≤ n ∧ n < 2 ^ 62) ∧ R (n - l).toNat (fun _ => True) (yRg l) H1
  | _ => False) W
theorem i_R1 (hm : X.mg "range" = none) (h : SA X j tr [a]) (hg : Gl X "range" := by rfl) (hs : starEach [a] X.env = [(false, eval a X.env)] := by rfl) : SIt X j (iR1 tr) tg (.Call (.Name "range" p) [a] [] pos) :=
  ⟨_, pi_range1 hg hm pa_W hs, fun c σ H R q H1 x F k => (h.run c q).t x fun vs H2 ⟨H3, x3, q⟩ => by
    match vs, q with
    | [.int n], q => exact ⟨n, rfl, q.1.1, q.1.2, k _ _ _ _ _ _ x3 ⟨_, _, walk_range, fun _ _ _ _ => trivial, fun i H H1 x H1' K hi e y q => by
        obtain ⟨rfl, rfl⟩ := y
        refine ⟨H, e, ?_⟩
        show K (.int (0 + (i : Int))) H
        rw [Int.zero_add]
        exact q⟩ q.2⟩⟩
theorem i_R2 (hm : X.mg "range" = none) (h : SA X j tr [a, b]) (hg : Gl X "range" := by rfl) (hs : starEach [a, b] X.env = [(false, eval a X.env), (false, eval b X.env)] := by rfl) (hs2 : starEach [b] X.env = [(false, eval b X.env)] := by rfl) : SIt X j (iR2 tr) tg (.Call (.Name "range" p) [a, b] [] pos) :=
  ⟨_, pi_range2 hg hm pa_W hs hs2, fun c σ H R q H1 x F k => (h.run c q).t x fun vs H2 ⟨H3, x3, q⟩ => by
    match vs, q with
    | [.int l, .int n], q => exact ⟨l, n, rfl, q.1, k _ _ _ _ _ _ x3 ⟨_, _, walk_range, fun _ _ _ _ => trivial, fun i H H1 x H1' K hi e y q => by
        obtain ⟨rfl, rfl⟩ := y
        exact ⟨H, e, q⟩⟩ q.2⟩⟩
def ForP (n : Nat) (G : Hp → Prop) (Y : Nat → Hp → VK → Prop) (g : RG) (body : RS) (D : Ends) (W : WX) (σ : St) (H1 : Hp) : Prop := ∃ Pv : Nat → St → Hp → Prop, Pv 0 σ H1 ∧ (∀ i σ' H', i ≤ n → Pv i σ' H' → G H') ∧
  (∀ i σ' H', i < n → Pv i σ' H' → Y i H' fun x H2 => g x σ' H2 (fun σ3 H3 => body { D with nx := fun σ4 H4 => fg (Pv (i + 1) σ4) H4, ct := fun σ4 H4 => fg (Pv (i + 1) σ4) H4, bk := D.nx } W σ3 H3) W) ∧ ∀ σ' H', Pv n σ' H' → D.nx σ' H'
@[irreducible] def ForB (n : Nat) (G : Hp → Prop) (Y : Nat → Hp → VK → Prop) (g : RG) (body : RS) (D : Ends) (W : WX) (σ : St) (H1 : Hp) : Prop := ForP n G Y g body D W σ H1
theorem ForB.out {n : Nat} {G : Hp → Prop} {Y : Nat → Hp → VK → Prop} {g : RG} {body : RS} {D : Ends} {W : WX} {σ : St} {H1 : Hp} (h : ForB n G Y g body D W σ H1) : ForP n G Y g body D W σ H1 := by
  unfold ForB at h
  exact h
/-- a for by its invariant (turn, slots, heap) -/
theorem forB {n : Nat} {G : Hp → Prop} {Y : Nat → Hp → VK → Prop} {g : RG} {body : RS} {D : Ends} {W : WX} {σ : St} {H1 : Hp} (Pv : Nat → St → Hp → Prop) (h0 : Pv 0 σ H1) (hG : ∀ i σ' H', i ≤ n → Pv i σ' H' → G H')
    (turn : ∀ i σ' H', i < n → Pv i σ' H' → Y i H' fun x H2 => g x σ' H2 (fun σ3 H3 => body { D with nx := fun σ4 H4 => fg (Pv (i + 1) σ4) H4, ct := fun σ4 H4 => fg (Pv (i + 1) σ4) H4, bk := D.nx } W σ3 H3) W) (done : ∀ σ' H', Pv n σ' H' → D.nx σ' H') : ForB n G Y g body D W σ H1 := by
  unfold ForB
  exact ⟨Pv, h0, hG, turn, done⟩
def zFor (it : RI) (g : RG) (body : RS) : RS := fun D W σ H => it σ H (fun n G Y H1 => ForB n G Y g body D W σ H1) W
theorem z_for {it : RI} (hi : SIt X j it tg iter) (hg : SG X j g tg) (hb : SSs X j zs body) (hc : X.calm = true := by rfl) (hs : ∀ x, foldedSetIterable iter X.env x = pure x := by intro _; rfl) : SS X j (zFor it g zs) (.For tg iter body [] pos) := by
  obtain ⟨wi, pi, k⟩ := hi.ex
  refine ⟨fun {W} c o D σ H q => .of (ps_for o hc pi pg_W pss_W hs) fun H1 x => ?_⟩
  refine k c q H1 x _ fun J H2 H' n G Y x2 hJ hb0 => ?_
  obtain ⟨Pv, h0, hG, hs, hd⟩ := hb0.out
  obtain ⟨G0, Y0, wk, hG0, hY⟩ := hJ.ex
  refine for_it wk (fun i => upS (Pv i)) ⟨H', x2, h0⟩ (fun i σ' H3 hi ⟨H4, x4, p⟩ => hG0 _ _ (hG i σ' H4 hi p) x4) (fun i y σ' H3 H3' hi ⟨H4, x4, p⟩ hy => ?_) fun σ' H3 ⟨H4, x4, p⟩ => ⟨H4, x4, hd _ _ p⟩
  obtain ⟨H5, x5, q5⟩ := hY i H4 H3 y H3' _ hi x4 hy (hs i σ' H4 hi p)
  exact (hg.run c q5).t x5 fun σ6 H6 ⟨H7, x7, q7⟩ => ⟨H7, _, x7, hb.run c o q7, ⟨fun _ _ ⟨H8, x8, H9, x9, q⟩ => ⟨H9, x9.trans x8, q⟩, fun _ _ q => q, fun _ _ q => q, fun _ _ ⟨H8, x8, H9, x9, q⟩ => ⟨H9, x9.trans x8, q⟩⟩⟩
/-- while: a measure that falls, an invariant -/
def zWhile (tc : RT) (body : RS) : RS := fun D W σ H => ∃ (Pv : Nat → St → Hp → Prop) (m : Nat), Pv m σ H ∧ ∀ m σ' H', Pv m σ' H' → tc σ' H' (fun k H2 =>
  (k = true → body { D with nx := fun σ3 H3 => ∃ m', m' < m ∧ fg (Pv m' σ3) H3, ct := fun σ3 H3 => ∃ m', m' < m ∧ fg (Pv m' σ3) H3, bk := D.nx } W σ' H2) ∧ (k = false → D.nx σ' H2)) W
theorem Cn.tkU (cn : Cn X (upW W) j) (o : Own X) : Tk X (upW W) := cn.t o
theorem z_while (h : SB X j tc c) (hb : SSs X j zs body) : SS X j (zWhile tc zs) (.While c body [] pos) := ⟨fun {W} cn o D σ H ⟨Pv, m, h0, hs⟩ => by
  refine ws_while (cn.t o) (fun m σ' H' => fg (Pv m σ') H') m (.i h0) fun m σ' H' ⟨H2, x2, p⟩ => ?_
  refine WT.mono (QB := fun k H2 => (k = true → zs { D with nx := fun σ3 H3 => ∃ m', m' < m ∧ fg (Pv m' σ3) H3, ct := fun σ3 H3 => ∃ m', m' < m ∧ fg (Pv m' σ3) H3, bk := D.nx } W σ' H2) ∧ (k = false → D.nx σ' H2)) (fun H1 x => h.run cn (hs m σ' H2 p) H1 (x2.trans x)) fun k H q => ?_
  cases k with
  | true => rw [if_pos rfl]; exact hb.run cn o (q.1 rfl)
  | false => exact iteF (q.2 rfl)⟩
/-! ## comprehensions -/
theorem Cn.blkU {k : Nat} {W1 : WX} (c : Cn X W k) (s : Shared) (H : Hp) (scope : Scope) (C : Addr) (cl : List (Str × Addr)) (fp : List Addr) : Cn (X.blk s H scope (compEnvC scope cl C X.env) fp) (upW fun _ _ _ _ => False) k :=
  ⟨c.room, c.gd, fun u s' ⟨a, B, sI, pins, σ, H, cls, d, e, I, nb, up, sky, na, os, ag, w⟩ => w.elim fun _ w => w.2.elim, fun _ _ _ _ _ z _ => z.elim fun _ w => w.2.elim⟩
def noW : WX := fun _ _ _ _ => False
def tY : RT := fun _ H Q _ => Q true H
/-- [elt for tg in it if tc] -/
def LcP (n : Nat) (G : Hp → Prop) (Y : Nat → Hp → VK → Prop) (g : RG) (tc : RT) (elt : RX) (vs : List Nat) (σ : St) (H1 : Hp) (Q : VK) : Prop := ∃ Pv : Nat → List V → Hp → Prop, Pv 0 [] H1 ∧ (∀ i acc H', i ≤ n → Pv i acc H' → G H' ∧ acc.length < 100000) ∧
  (∀ i acc H' d, i < n → Pv i acc H' → H' d = none → Y i (upd H' d (.lst acc)) fun x H2 => g x (wipe σ vs) H2 (fun σ3 H3 => wipe σ3 vs = wipe σ vs ∧ tc σ3 H3 (fun k H4 =>
    (k = true → elt σ3 H4 (fun y H5 => ∃ H6, H6 d = none ∧ Ex (upd H6 d (.lst acc)) H5 ∧ Pv (i + 1) (acc ++ [y]) H6) noW) ∧ (k = false → ∃ H6, H6 d = none ∧ Ex (upd H6 d (.lst acc)) H4 ∧ Pv (i + 1) acc H6)) noW) noW) ∧
  ∀ acc H' q, Pv n acc H' → H' q = none → Q (.ref q) (upd H' q (.lst acc))
@[irreducible] def LcB (n : Nat) (G : Hp → Prop) (Y : Nat → Hp → VK → Prop) (g : RG) (tc : RT) (elt : RX) (vs : List Nat) (σ : St) (H1 : Hp) (Q : VK) : Prop := LcP n G Y g tc elt vs σ H1 Q
theorem LcB.out {n : Nat} {G : Hp → Prop} {Y : Nat → Hp → VK → Prop} {g : RG} {tc : RT} {elt : RX} {vs : List Nat} {σ : St} {H1 : Hp} {Q : VK} (h : LcB n G Y g tc elt vs σ H1 Q) : LcP n G Y g tc elt vs σ H1 Q := by
  unfold LcB at h
  exact h
/-- a comprehension by its invariant (turn, the list so far, the heap without it) -/
theorem lcB {n : Nat} {G : Hp → Prop} {Y : Nat → Hp → VK → Prop} {g : RG} {tc : RT} {elt : RX} {vs : List Nat} {σ : St} {H1 : Hp} {Q : VK} (Pv : Nat → List V → Hp → Prop) (h0 : Pv 0 [] H1) (hG : ∀ i acc H', i ≤ n → Pv i acc H' → G H' ∧ acc.length < 100000)
    (turn : ∀ i acc H' d, i < n → Pv i acc H' → H' d = none → Y i (upd H' d (.lst acc)) fun x H2 => g x (wipe σ vs) H2 (fun σ3 H3 => wipe σ3 vs = wipe σ vs ∧ tc σ3 H3 (fun k H4 =>
    (k = true → elt σ3 H4 (fun y H5 => ∃ H6, H6 d = none ∧ Ex (upd H6 d (.lst acc)) H5 ∧ Pv (i + 1) (acc ++ [y]) H6) noW) ∧ (k = false → ∃ H6, H6 d = none ∧ Ex (upd H6 d (.lst acc)) H4 ∧ Pv (i + 1) acc H6)) noW) noW)
    (done : ∀ acc H' q, Pv n acc H' → H' q = none → Q (.ref q) (upd H' q (.lst acc))) : LcB n G Y g tc elt vs σ H1 Q := by
  unfold LcB
  exact ⟨Pv, h0, hG, turn, done⟩
/-- [elt for tg in it if tc] -/
def rLc (it : RI) (g : RG) (tc : RT) (elt : RX) (vs : List Nat) : RX := fun σ H Q W => it σ H (fun n G Y H1 => LcB n G Y g tc elt vs σ H1 Q) W
structure SBs (X : Cx) (j : Nat) (t : RT) (ifs : List Expr) : Prop where
  run : ∀ {W : WX}, Cn X (upW W) j → ∀ {σ H Q}, t σ H Q W → ∀ H1, Ex H H1 → ∀ pins s, Inv X pins σ H1 s → ∀ (Qf : Bool → Hp → Prop), (∀ k H2, upB Q k H2 → Qf k H2) → True
/-- a text within the block -/
def eBW (X : Cx) (scope : Scope) (t : RX) (e : Expr) : TE := fun σ H1 Q1 => ∃ H Q, Ex H H1 ∧ t σ H Q noW ∧ ∀ v H2, up Q v H2 → Q1 v H2
def tBW (X : Cx) (scope : Scope) (t : RT) (e : Expr) : TT := fun σ H1 Q1 => ∃ H Q, Ex H H1 ∧ t σ H Q noW ∧ ∀ v H2, upB Q v H2 → Q1 v H2
def gBW (X : Cx) (scope : Scope) (g : RG) (tg : Expr) : TG := fun v σ H1 R1 => ∃ H R, Ex H H1 ∧ g v σ H R noW ∧ ∀ σ' H2, upS R σ' H2 → R1 σ' H2
abbrev BX (X : Cx) (scope : Scope) (p : Cx → Prop) : Prop := InB X scope p
theorem lc_ok {scope : Scope} {own : List (Str × Nat)} {it : RI} {elt : Expr} {ifs : List Expr} {te : RX} (cn : Cn X (upW W) j) (hi : SIt X j it tg iter) (hg : InB X scope fun Y => SG Y j g tg) (ht : ∀ (s : Shared) (H : Hp) (C : Addr) (cl : List (Str × Addr)) (fp : List Addr), PTs (X.blk s H scope (compEnvC scope cl C X.env) fp) ifs (tBW X scope tc iter)) (he : InB X scope fun Y => SX Y j te elt)
    (q : rLc it g tc te (own.map (·.2)) σ H Q W) : ∃ wi, PI X tg iter wi ∧ ∀ H1, Ex H H1 → tLc wi (gBW X scope g tg) (tBW X scope tc iter) (eBW X scope te elt) (own.map (·.2)) σ H1 (up Q) := by
  obtain ⟨wi, pi, k⟩ := hi.ex
  refine ⟨wi, pi, fun H1 x => ?_⟩
  refine k cn q H1 x _ fun J H2 H' n G Y x2 hJ hb0 D hD => ?_
  obtain ⟨Pv, h0, hG, hs, hd⟩ := hb0.out
  obtain ⟨G0, Y0, wk, hG0, hY⟩ := hJ.ex
  refine lc_it wk (fun i H4 => ∃ acc H5, H5 D = none ∧ Ex (upd H5 D (.lst acc)) H4 ∧ Pv i acc H5) ⟨[], H', x2.free hD, x2.set D _, h0⟩ (fun i H4 hi ⟨acc, H5, n5, x5, p⟩ => hG0 _ _ (hG i acc H5 hi p).1 ((Ex.put n5).trans x5)) (fun i y H4 H4' hi ⟨acc, H5, n5, x5, p⟩ hy => ?_) fun H4 ⟨acc, H5, n5, x5, p⟩ => ⟨_, x5, hd acc H5 D p n5⟩
  obtain ⟨H6, x6, q6⟩ := hY i _ H4 y H4' _ hi x5 hy (hs i acc H5 D hi p n5)
  have hz := (hG i acc H5 (Nat.le_of_lt hi) p).2
  refine ⟨H6, _, x6, q6, fun σ7 H7 ⟨H8, x8, ew, q8⟩ => ⟨ew, H8, _, x8, q8, fun b H9 ⟨H10, x10, q10⟩ => ?_⟩⟩
  cases b with
  | true =>
    rw [if_pos rfl]
    refine ⟨H10, _, x10, q10.1 rfl, fun y H11 ⟨H12, x12, H13, n13, x13, p13⟩ => ⟨acc, (x13.trans x12) _ _ upd_same, Nat.lt_trans hz (by decide), acc ++ [y], H13, n13, ?_, p13⟩⟩
    have z := (x13.trans x12).set D (.lst (acc ++ [y]))
    rw [upd_upd] at z
    exact z
  | false =>
    rw [if_neg (by decide)]
    obtain ⟨H13, n13, x13, p13⟩ := q10.2 rfl
    exact ⟨acc, H13, n13, x13.trans x10, p13⟩
theorem gBW_ok {scope : Scope} (cn : Cn X (upW W) j) (hg : InB X scope fun Y => SG Y j g tg) (s : Shared) (H : Hp) (C : Addr) (cl : List (Str × Addr)) (fp : List Addr) : PG (X.blk s H scope (compEnvC scope cl C X.env) fp) tg (gBW X scope g tg) :=
  ⟨fun pins s' σ H' v u R I r ⟨H1, R1, x, q, k⟩ => pg_W.run pins s' σ H' v u R I r ((hg s H C cl fp).run (cn.blkU (W1 := noW) s H scope C cl fp) q |>.t x k)⟩
theorem eBW_ok {scope : Scope} {te : RX} (cn : Cn X (upW W) j) (he : InB X scope fun Y => SX Y j te e) (s : Shared) (H : Hp) (C : Addr) (cl : List (Str × Addr)) (fp : List Addr) : PE (X.blk s H scope (compEnvC scope cl C X.env) fp) e (eBW X scope te e) :=
  ⟨fun pins s' σ H' Q I ⟨H1, Q1, x, q, k⟩ => pe_W.run pins s' σ H' Q I ((he s H C cl fp).run (cn.blkU (W1 := noW) s H scope C cl fp) q |>.t x k)⟩
theorem tBW_ok {scope : Scope} {e2 : Expr} (cn : Cn X (upW W) j) (he : InB X scope fun Y => SB Y j tc e) (s : Shared) (H : Hp) (C : Addr) (cl : List (Str × Addr)) (fp : List Addr) : PTs (X.blk s H scope (compEnvC scope cl C X.env) fp) [e] (tBW X scope tc e2) :=
  pts_one ⟨fun pins s' σ H' Q I ⟨H1, Q1, x, q, k⟩ => pt_W.run pins s' σ H' Q I ((he s H C cl fp).run (cn.blkU (W1 := noW) s H scope C cl fp) q |>.t x k)⟩
theorem tBW_ok0 {scope : Scope} {e2 : Expr} (s : Shared) (H : Hp) (C : Addr) (cl : List (Str × Addr)) (fp : List Addr) : PTs (X.blk s H scope (compEnvC scope cl C X.env) fp) [] (tBW X scope tY e2) :=
  ⟨fun pins s' σ H' Q I ⟨H1, Q1, x, q, k⟩ => wpAny_tests_nil ⟨H', I, k _ _ ⟨H1, x, q⟩⟩⟩
theorem s_lc0 {scope : Scope} {own : List (Str × Nat)} {it : RI} {elt : Expr} {te : RX} (hi : SIt X j it tg iter) (hN : X.N.Nodup) (ok : blkC X.N X.env.scope scope own = true) (hg : InB X scope fun Y => SG Y j g tg) (he : InB X scope fun Y => SX Y j te elt) (hc : X.calm = true := by rfl) (hs : ∀ x, foldedSetIterable iter X.env x = pure x := by intro _; rfl) :
    SX X j (rLc it g tY te (own.map (·.2))) (.ListComp elt [⟨tg, iter, [], 0⟩] scope pos) := ⟨fun cn σ H Q q => by
  obtain ⟨wi, pi, k⟩ := lc_ok (scope := scope) (elt := elt) (ifs := []) cn hi hg tBW_ok0 he q
  exact .of (pe_lc hc hN pi (blkOk_by ok) (gBW_ok cn hg) tBW_ok0 (eBW_ok cn he) hs) k⟩
theorem s_lc1 {scope : Scope} {own : List (Str × Nat)} {it : RI} {elt cd : Expr} {te : RX} (hi : SIt X j it tg iter) (hN : X.N.Nodup) (ok : blkC X.N X.env.scope scope own = true) (hg : InB X scope fun Y => SG Y j g tg) (ht : InB X scope fun Y => SB Y j tc cd) (he : InB X scope fun Y => SX Y j te elt) (hc : X.calm = true := by rfl) (hs : ∀ x, foldedSetIterable iter X.env x = pure x := by intro _; rfl) :
    SX X j (rLc it g tc te (own.map (·.2))) (.ListComp elt [⟨tg, iter, [cd], 0⟩] scope pos) := ⟨fun cn σ H Q q => by
  obtain ⟨wi, pi, k⟩ := lc_ok (scope := scope) (elt := elt) (ifs := [cd]) cn hi hg (tBW_ok cn ht) he q
  exact .of (pe_lc hc hN pi (blkOk_by ok) (gBW_ok cn hg) (tBW_ok cn ht) (eBW_ok cn he) hs) k⟩
/-- name = [..] -/
theorem z_lc0 {y : Str} {py spos : Pos} {scope : Scope} {own : List (Str × Nat)} {it : RI} {elt : Expr} {te : RX} (hi : SIt X j it tg iter) (hN : X.N.Nodup) (hy : X.N[i]? = some y) (ok : blkC X.N X.env.scope scope own = true) (hg : InB X scope fun Y => SG Y j g tg) (he : InB X scope fun Y => SX Y j te elt) (hyl : X.env.scope.names.lookup y = some .local := by rfl)
    (hsw : swapsWith (.ListComp elt [⟨tg, iter, [], 0⟩] scope pos) (some (.Name y py)) spos.line X.env = pure true := by rfl) (hc : X.calm = true := by rfl) (hs : ∀ x, foldedSetIterable iter X.env x = pure x := by intro _; rfl) :
    SS X j (zSet i (rLc it g tY te (own.map (·.2)))) (.Assign [.Name y py] (.ListComp elt [⟨tg, iter, [], 0⟩] scope pos) spos) := ⟨fun cn _ D σ H q => by
  obtain ⟨wi, pi, k⟩ := lc_ok (scope := scope) (elt := elt) (ifs := []) cn hi hg tBW_ok0 he q
  exact .of (ps_setLc hc hN hy hyl hsw pi (blkOk_by ok) (gBW_ok cn hg) tBW_ok0 (eBW_ok cn he) hs) fun H1 x => by simp only [put_set] at k; exact k H1 x⟩
theorem z_lc1 {y : Str} {py spos : Pos} {scope : Scope} {own : List (Str × Nat)} {it : RI} {elt cd : Expr} {te : RX} (hi : SIt X j it tg iter) (hN : X.N.Nodup) (hy : X.N[i]? = some y) (ok : blkC X.N X.env.scope scope own = true) (hg : InB X scope fun Y => SG Y j g tg) (ht : InB X scope fun Y => SB Y j tc cd) (he : InB X scope fun Y => SX Y j te elt) (hyl : X.env.scope.names.lookup y = some .local := by rfl)
    (hsw : swapsWith (.ListComp elt [⟨tg, iter, [cd], 0⟩] scope pos) (some (.Name y py)) spos.line X.env = pure true := by rfl) (hc : X.calm = true := by rfl) (hs : ∀ x, foldedSetIterable iter X.env x = pure x := by intro _; rfl) :
    SS X j (zSet i (rLc it g tc te (own.map (·.2)))) (.Assign [.Name y py] (.ListComp elt [⟨tg, iter, [cd], 0⟩] scope pos) spos) := ⟨fun cn _ D σ H q => by
  obtain ⟨wi, pi, k⟩ := lc_ok (scope := scope) (elt := elt) (ifs := [cd]) cn hi hg (tBW_ok cn ht) he q
  exact .of (ps_setLc hc hN hy hyl hsw pi (blkOk_by ok) (gBW_ok cn hg) (tBW_ok cn ht) (eBW_ok cn he) hs) fun H1 x => by simp only [put_set] at k; exact k H1 x⟩
/-! ## a def -/
def rFn (n : Nat) (N : List Str) (body : RS) : Sp := fun vs H Q E => vs.length = n ∧ body { nx := fun _ H' => fg (Q .non) H', rt := fun v H' => fg (Q v) H' } (fun c d _ H' => E c d H') (start N vs) H
theorem rfn_ends {Q : VK} : EndsLe { nx := fun _ H' => fg (Q .non) H', rt := fun v H' => fg (Q v) H' } (upD { nx := fun _ H' => Q .non H', rt := Q }) :=
  ⟨fun _ _ ⟨_, x, H', x', q⟩ => ⟨H', x'.trans x, q⟩, fun _ _ ⟨_, x, H', x', q⟩ => ⟨H', x'.trans x, q⟩, fun _ _ ⟨_, _, q⟩ => q.elim, fun _ _ ⟨_, _, q⟩ => q.elim⟩
end
section
variable {P : Program} {w : World} {K : PySem.W.Frag} {mg : Str → Option Value} {base : Heap} {n : Str} {st : Stmt} {ps N : List Str} {k : Nat} {zs : RS}
abbrev Body (P : Program) (w : World) (K : PySem.W.Frag) (mg : Str → Option Value) (base : Heap) (N : List Str) (n : Str) (st : Stmt) (f : Addr) (k : Nat) (zs : RS) : Prop :=
  ∀ (cd : Value) (A : Around) (outer : List Env) (s : Shared) (H1 : Hp) (E1 : XK), SSs (fx P w K mg base N n st f cd A outer s H1 E1) k zs (defBody st)
theorem Cn.toU {X : Cx} {W : WX} {E : XK} (c : Cn X W k) (hW : ∀ c d σ H', E c d H' → W c d σ H') (room : Takes X (upW fun c d _ H' => E c d H')) : Cn X (upW fun c d _ H' => E c d H') k := ⟨c.room, c.gd, room, fun c d σ H H' ⟨H2, x2, q⟩ x => ⟨H2, x2.trans x, q⟩⟩
theorem Def.rfng (d : Def K mg n st ps) (S : FnScope N ps (defScope st)) (hb : Body P w K mg base N n st d.f k zs) : FnG P w K mg base (k + 1) d.f d.fd ps (rFn ps.length N zs) :=
  fng_of d.F S (fun vs H Q E h => h.1) fun cd A outer s H1 E1 W vs H Q E c o hW h => by
    have c2 : Cn (fx P w K mg base N n st d.f cd A outer s H1 E1) (upW fun c d _ H' => E c d H') k := ⟨c.room, c.gd, c.tk.imp fun c0 d0 σ0 H0 ⟨H2, x2, q⟩ => c.wu _ _ _ _ _ (hW _ _ _ _ q) x2, fun c d σ H H' ⟨H2, x2, q⟩ x => ⟨H2, x2.trans x, q⟩⟩
    exact ((hb cd A outer s H1 E1).run c2 o h.2).le rfn_ends
theorem Def.rcal (d : Def K mg n st ps) (S : FnScope N ps (defScope st)) (hb : Body P w K mg base N n st d.f k zs) : Cal P w K mg base n (k + 1) ps [] (rFn ps.length N zs) :=
  ⟨d.f, d.fd, [], d.rfng S hb, d.g, d.F.kp, d.b, .nil, by
    obtain ⟨oc, od, kV, doc, pm, an, cd, ct, osl, e, lk, _⟩ := d.F.ex
    exact ⟨oc, od, osl, lk⟩⟩
end
/-! ## keyword calls -/
def reo {α : Type} (is : List Nat) (us ws : List α) : List α := is.filterMap fun i => (us ++ ws)[i]?
theorem reo_vals (is : List Nat) {vs zs : List V} {us ws : List Value} (h1 : Vals vs us) (h2 : Vals zs ws) : Vals (reo is vs zs) (reo is us ws) := by
  have h := h1.append h2
  unfold reo
  induction is with
  | nil => exact .nil
  | cons i is ih =>
    rw [List.filterMap_cons, List.filterMap_cons]
    cases e : (vs ++ zs)[i]? with
    | none =>
      rw [Vals.none_of h e]
      exact ih
    | some x =>
      obtain ⟨u, hu, r⟩ := Vals.get h e
      rw [hu]
      exact .cons r ih
section
variable {X : Cx} {j : Nat} {W : WX} {e a b c : Expr} {es rest : List Expr} {kws : List Keyword} {σ : St} {H H1 : Hp} {Q : VK} {pos p : Pos} {t ta tb : RX} {tr tk : RA} {n : Str}
theorem WK.mono {QA QA1 : List V → Hp → Prop} (w : WK X kws σ H QA) (k : ∀ v H, QA v H → QA1 v H) : WK X kws σ H QA1 := fun H1 x pos pins s I => thn (w H1 x pos pins s I) fun u s' ⟨v, H2, I2, r, H3, x3, q⟩ => ⟨v, H2, I2, r, H3, x3, k _ _ q⟩
theorem run_fngNU {vs zs : List V} {k m : Nat} {f : Addr} {fd : FuncData} {ps ks : List Str} {sp : Sp} {us ws : List Value} {pins : List (Addr × Obj)} {s : Shared} {g : List Value → List Value → List Value} {gV : List V → List V → List V}
    (F : FnG X.prog X.w X.K X.mg X.base k f fd ps sp) (c : Cn X (upW W) k) (hb : KBn X.K fd ps m ks g gV) (I : Inv X pins σ H1 s) (x : Ex H H1) (r : Vals vs us) (rz : Vals zs ws) (l1 : vs.length = m) (l2 : zs.length = ks.length) (h : sp (gV vs zs) H Q fun c d H' => W c d σ H') :
    wpAny (model X.prog X.w) X.A (call (.ref f) us (ks.zip ws)) (EP X pins σ (up Q)) X.xe s := by
  have r2 := hb.rel r rz
  refine wpAny_call (codeAny_mono (F.run X.A X.stack s H1 ⟨us, ks.zip ws⟩ (g us ws) (gV vs zs) H Q _ c.room c.gd I.env0 (hb.to s us ws I.kIn (r.length.symm.trans l1) (rz.length.symm.trans l2)) r2 x h) fun res s' q => ?_)
  rcases res with er | fl
  · exact c.tk er s' (XE.of_call I (fun cl d H' ⟨H2, x2, q2⟩ => ⟨H2, x2, q2⟩) q)
  · cases fl with
    | ret u => exact I.after q
    | _ => exact q.elim
/-- f(e, .., k = v, ..): the values in the parameters' order -/
def rCallN (sp : Sp) (m nk : Nat) (gV : List V → List V → List V) (t tk : RA) : RX := fun σ H Q W => t σ H (fun vs H1 => tk σ H1 (fun zs H2 => vs.length = m ∧ zs.length = nk ∧ sp (gV vs zs) H2 Q fun c d H' => W c d σ H') W) W
theorem s_callK {sp : Sp} {k m nk : Nat} {ks : List Str} {gV : List V → List V → List V} (C : CalK X.prog X.w X.K X.mg X.base n k m ks gV sp) (h : SA X j tr (e :: es)) (hk : SK X j tk kws) (hnk : ks.length = nk := by rfl) (hkj : k ≤ j := by decide) (hg : Gl X n := by rfl)
    (hall : (backToKw pos (keywordEach kws X.env)).all (·.1.isSome) = true := by rfl) (hks : (backToKw pos (keywordEach kws X.env)).filterMap (·.1) = ks := by rfl)
    (hdb : (n == ("__debug__" : Str)) = false := by decide) (he : starEach (e :: es) X.env = (false, eval e X.env) :: starEach es X.env := by rfl)
    (hpl : ((backTo pos (starEach (e :: es) X.env)).any (·.1) || (backToKw pos (keywordEach kws X.env)).any (·.1.isNone)) = false := by rfl) : SX X j (rCallN sp m nk gV tr tk) (.Call (.Name n p) (e :: es) kws pos) := by
  obtain ⟨f, fd, ps, g, F, hm, hkp, hb⟩ := C.ex
  refine ⟨fun c σ H Q q H1 x pins s I => ?_⟩
  refine wpAny_Call_Name_kw (ld_glob I hg hm ?_ hdb)
  refine PySem.W.callWith_KW (h₀ := X.base) I.ok.mod.kin hkp hall (thn (h.run c q H1 x pos pins s I) fun us s1 ⟨vs, H2, I2, r, H3, x3, q⟩ => ?_) hpl he
  refine thn (hk.run c q H2 x3 pos pins s1 I2) fun ws s2 ⟨zs, H4, I4, rz, H5, x5, l1, l2, q2⟩ => ⟨I4.kIn, ?_⟩
  rw [hks]
  exact run_fngNU F (c.mono hkj) hb I4 x5 r rz l1 (l2.trans hnk.symm) q2
theorem s_callK0 {sp : Sp} {k nk : Nat} {ks : List Str} {gV : List V → List V → List V} (C : CalK X.prog X.w X.K X.mg X.base n k 0 ks gV sp) (hk : SK X j tk kws) (hnk : ks.length = nk := by rfl) (hkj : k ≤ j := by decide) (hg : Gl X n := by rfl)
    (hall : (backToKw pos (keywordEach kws X.env)).all (·.1.isSome) = true := by rfl) (hks : (backToKw pos (keywordEach kws X.env)).filterMap (·.1) = ks := by rfl)
    (hdb : (n == ("__debug__" : Str)) = false := by decide) (hpl : ((backTo pos (starEach [] X.env)).any (·.1) || (backToKw pos (keywordEach kws X.env)).any (·.1.isNone)) = false := by rfl) : SX X j (rCallN sp 0 nk gV aNil tk) (.Call (.Name n p) [] kws pos) := by
  obtain ⟨f, fd, ps, g, F, hm, hkp, hb⟩ := C.ex
  refine ⟨fun c σ H Q q H1 x pins s I => ?_⟩
  refine wpAny_Call_Name_kw (ld_glob I hg hm ?_ hdb)
  refine PySem.W.callWith_KW0 (h₀ := X.base) I.ok.mod.kin hkp hall ?_ hpl
  refine thn (hk.run c q H1 x pos pins s I) fun ws s2 ⟨zs, H4, I4, rz, H5, x5, _, l2, q2⟩ => ⟨I4.kIn, ?_⟩
  rw [hks]
  exact run_fngNU (us := []) (vs := []) F (c.mono hkj) hb I4 x5 .nil rz rfl (l2.trans hnk.symm) q2
/-! ## f-strings -/
def rJs : List RX → Str → St → Hp → (Str → Hp → Prop) → WX → Prop
  | [], acc, _, H, Q, _ => Q acc H
  | t :: ts, acc, σ, H, Q, W => t σ H (fun v H1 => ∃ y, v = .str y ∧ (acc ++ y).length ≤ sizeLine ∧ rJs ts (acc ++ y) σ H1 Q W) W
def rJoin (ts : List RX) : RX := fun σ H Q W => rJs ts Str.empty σ H (fun y H1 => Q (.str y) H1) W
inductive SJ (X : Cx) (j : Nat) : List RX → List Expr → Prop where
  | nil : SJ X j [] []
  | cons {t : RX} {e : Expr} {ts : List RX} {es : List Expr} (h : SX X j t e) (r : SJ X j ts es) : SJ X j (t :: ts) (e :: es)
theorem SJ.pj {ts : List RX} (h : SJ X j ts es) : PJ X es (es.map (tWE X)) := by
  induction h with
  | nil => exact .nil
  | cons h r ih => exact .cons pe_W ih
theorem SJ.run {ts : List RX} (h : SJ X j ts es) (c : Cn X (upW W) j) : ∀ (acc : Str) (Q Q1 : Str → Hp → Prop) (H H1 : Hp), Ex H H1 → rJs ts acc σ H Q W → (∀ y H' H2, Ex H' H2 → Q y H' → Q1 y H2) → tJs (es.map (tWE X)) acc σ H1 Q1 := by
  induction h with
  | nil => intro acc Q Q1 H H1 x q k; exact k _ _ _ x q
  | cons h r ih =>
    intro acc Q Q1 H H1 x q k
    exact (h.run c q).t x fun v H2 ⟨H3, x3, y, e, hz, q⟩ => ⟨y, e, hz, ih _ _ _ _ _ x3 q k⟩
theorem s_join {ts : List RX} (h : SJ X j ts (a :: b :: es)) : SX X j (rJoin ts) (.JoinedStr (a :: b :: es) pos) := ⟨fun c σ H Q q =>
  .of (pe_joined h.pj) fun H1 x => h.run c _ _ _ _ _ x q fun y H' H2 x2 q => ⟨H', x2, q⟩⟩
def rFmtI (t : RX) : RX := fun σ H Q W => t σ H (fun v H1 => match v with
  | .int i => i.natAbs.log2 < 1920 ∧ Q (.str (toString i)) H1
  | .str y => y.length ≤ sizeLine ∧ Q (.str y) H1
  | _ => False) W
theorem s_fmt (h : SX X j t e) : SX X j (rFmtI t) (.FormattedValue e (-1) none pos) := ⟨fun c _ _ _ q => .of (pe_fmt pe_W) fun H2 x2 => (h.run c q).t x2 fun v H3 ⟨H4, x4, q⟩ => by
  cases v <;> first | exact .inr ⟨_, rfl, q.1, H4, x4, q.2⟩ | exact .inl ⟨_, rfl, q.1, H4, x4, q.2⟩ | exact q.elim⟩
end
/-! ## plain numbers, data of ints -/
def cntM (l h m : Int) : Int := if decide (l ≤ h) = true then h / m - (l - 1) / m else 0
def cntS (v l h : Int) : Int := if v = 0 then 0 else cntM l h (2 * lowb v) + (cntM (if v + 1 > l then v + 1 else l) h (lowb v) - cntM (if v + 1 > l then v + 1 else l) h (2 * lowb v))
theorem lowb_pos {v : Int} (h : 0 < v) : 1 ≤ lowb v := by
  obtain ⟨n, rfl⟩ := Int.eq_ofNat_of_zero_le (Int.le_of_lt h)
  rw [lowb_nat (by omega)]
  have := Nat.and_le_right (n := n) (m := n - 1)
  omega
theorem pal_fits {n : Int} (h0 : 0 ≤ n) (h : n < 1000000000000000000000000000000000000000000000000000000000000000) : CShl 1 ((Builtin.Int.intBits (if n - 1 > 0 then n - 1 else 0) : Nat) : Int) := by
  have hz := small_n h0 h
  have b : Builtin.Int.intBits (if n - 1 > 0 then n - 1 else 0) ≤ 100000 := PyProof.Rows.intBits_le (Nat.lt_of_le_of_lt (by split <;> omega) hz)
  exact shl_ok (n := 1) (by decide) (by omega)
def stepV (n : Int) : V := if decide (n > 0) = true then .int (lowb n) else .non
theorem mulW {i j : Int} (h1 : Wide i) (h2 : Wide j) : CMulX i j := by
  have a := h1.bits
  have b := h2.bits
  show (Builtin.Int.intBits i : Int) + (Builtin.Int.intBits j : Int) ≤ 134217728
  omega
theorem Vals.rev {xs : List V} {us : List Value} (h : Vals xs us) : Vals xs.reverse us.reverse := by
  induction h with
  | nil => exact .nil
  | cons r t ih =>
    rw [List.reverse_cons, List.reverse_cons]
    exact Vals.append ih (.cons r .nil)
theorem dp_ints {K : PySem.W.Frag} {H : Hp} : ∀ xs : List Int, DpAll K H (xs.map V.int) (xs.map PyData.int)
  | [] => .nil
  | x :: xs => .cons (.int x) (dp_ints xs)
theorem fits_ints : ∀ xs : List Int, (∀ x ∈ xs, 0 ≤ x ∧ x < 1000000000000000000000000000000000000000000000000000000000000000) → fitsAll (xs.map PyData.int)
  | [], _ => by simp [fitsAll]
  | x :: xs, h => by
    have h1 := h x (List.mem_cons_self ..)
    simp only [List.map_cons, fitsAll, fits]
    exact ⟨by omega, fits_ints xs fun y hy => h y (List.mem_cons_of_mem _ hy)⟩
theorem bulk_ints : ∀ xs : List Int, PyData.bulkAll (xs.map PyData.int) = xs.length
  | [] => by simp [PyData.bulkAll]
  | x :: xs => by
    simp only [List.map_cons, PyData.bulkAll, PyData.bulk, bulk_ints xs, List.length_cons]
    omega
theorem depth_ints : ∀ xs : List Int, PyData.depthAll (xs.map PyData.int) = 0
  | [] => by simp [PyData.depthAll]
  | x :: xs => by
    simp only [List.map_cons, PyData.depthAll, PyData.depth, depth_ints xs]
    rfl
theorem cntM_b {l h m : Int} (l0 : 0 ≤ l) (h0 : 0 ≤ h) (m0 : 1 ≤ m) (hl : l < 9000000000000000000000000000000000000000000000000000000000000000) (hh : h < 9000000000000000000000000000000000000000000000000000000000000000) :
    -10000000000000000000000000000000000000000000000000000000000000000 < cntM l h m ∧ cntM l h m < 10000000000000000000000000000000000000000000000000000000000000000 := by
  have a1 : 0 ≤ h / m := Int.ediv_nonneg h0 (by omega)
  have a2 : h / m ≤ h := Int.ediv_le_self _ h0
  have a3 : (l - 1) / m ≤ l := by
    by_cases z : l = 0
    · subst z
      exact Int.le_of_lt (Int.ediv_neg_of_neg_of_pos (by decide) (by omega))
    · have := Int.ediv_le_self m (show 0 ≤ l - 1 by omega)
      omega
  have a4 : -1 ≤ (l - 1) / m := by
    have := Int.ediv_le_ediv (show 0 < m by omega) (show -1 ≤ l - 1 by omega)
    have e : (-1 : Int) / m = -1 := Int.ediv_eq_neg_one_of_neg_of_le (by decide) (by omega)
    omega
  unfold cntM
  split <;> omega
theorem cntS_b {v l h : Int} (v0 : 0 ≤ v) (l0 : 0 ≤ l) (h0 : 0 ≤ h) (hv : v < 1000000000000000000000000000000000000000000000000000000000000000) (hl : l < 1000000000000000000000000000000000000000000000000000000000000000) (hh : h < 1000000000000000000000000000000000000000000000000000000000000000) :
    -100000000000000000000000000000000000000000000000000000000000000000 < cntS v l h ∧ cntS v l h < 100000000000000000000000000000000000000000000000000000000000000000 := by
  unfold cntS
  split
  · omega
  · have b1 := lowb_pos (v := v) (by omega)
    have up0 : 0 ≤ (if v + 1 > l then v + 1 else l) ∧ (if v + 1 > l then v + 1 else l) < 9000000000000000000000000000000000000000000000000000000000000000 := by split <;> omega
    generalize (if v + 1 > l then v + 1 else l) = up at up0 ⊢
    have c1 := cntM_b (m := 2 * lowb v) l0 h0 (by omega) (by omega) (by omega)
    have c2 := cntM_b (m := lowb v) up0.1 h0 b1 up0.2 (by omega)
    have c3 := cntM_b (m := 2 * lowb v) up0.1 h0 (by omega) up0.2 (by omega)
    omega
theorem pal_b {n : Int} (h : 0 ≤ n) : 1 ≤ pal n ∧ pal n ≤ 2 * n + 2 := by
  have p : 0 < pal n := Int.pow_pos (by decide)
  have q := (pal_facts h).2
  by_cases z : pal n > 1
  · have := q z
    omega
  · omega
theorem bits_pow {n : Int} : (1 : Int) * 2 ^ ((Builtin.Int.intBits n : Nat) : Int).toNat = 2 ^ Builtin.Int.intBits n := by rw [bits_nat, Int.one_mul]
/-- the powers that are left -/
def pwR : Nat → Int
  | 0 => 0
  | k + 1 => 2 ^ k
theorem pwR_half (k : Nat) : pwR (k + 1) / 2 ^ (1 : Int).toNat = pwR k := by
  show (2 : Int) ^ k / 2 ^ 1 = pwR k
  cases k with
  | zero => rfl
  | succ k =>
    show (2 : Int) ^ (k + 1) / 2 = 2 ^ k
    rw [Int.pow_succ]
    exact Int.mul_ediv_cancel _ (by decide)
section
variable {n m : Nat} {G : Hp → Prop} {Y : Nat → Hp → VK → Prop} {g : RG} {elt : RX} {vs : List Nat} {σ : St} {H : Hp} {Q : VK} {xs : List V} {lo : Int}
theorem wipe_put {v : V} : wipe (put (wipe σ [m]) m v) [m] = wipe σ [m] := by
  show (put (σ.set m none) m v).set m none = σ.set m none
  rw [put_set, List.set_set, List.set_set]
/-- a comprehension without test, one name; each turn leaves the heap as it was; the items are told by P (turn, item) -/
theorem lc_gen (I : Nat → V → Prop) (hy : ∀ i H k, i < n → (∀ x, I i x → k x H) → Y i H k) (P : Nat → V → Prop) (hn : n < 100000) (hG : G H)
    (turn : ∀ i x d acc (R : VK), i < n → I i x → H d = none → (∀ y H5, Ex (upd H d (.lst acc)) H5 → P i y → R y H5) → elt (put (wipe σ [m]) m x) (upd H d (.lst acc)) R noW)
    (done : ∀ ys q, ys.length = n → (∀ i y, ys[i]? = some y → P i y) → H q = none → Q (.ref q) (upd H q (.lst ys))) : LcB n G Y (gName m) tY elt [m] σ H Q :=
  lcB (fun i acc H' => H' = H ∧ acc.length = i ∧ ∀ k y, acc[k]? = some y → P k y) ⟨rfl, rfl, fun _ _ z => by simp at z⟩ (fun i acc H' hi p => by
    obtain ⟨rfl, p, _⟩ := p
    exact ⟨hG, by omega⟩) (fun i acc H' d hi p nd => by
    obtain ⟨rfl, rfl, p⟩ := p
    refine hy _ _ _ hi fun x hx => ⟨wipe_put, fun _ => turn _ x d acc _ hi hx nd fun y H5 x5 hp => ⟨H', nd, x5, rfl, by simp, fun k y' hk => ?_⟩, fun z => nomatch z⟩
    by_cases hk2 : k < acc.length
    · exact p k y' (by rwa [List.getElem?_append_left hk2] at hk)
    · rw [List.getElem?_append_right (by omega)] at hk
      have : k - acc.length = 0 := by
        cases e : k - acc.length with
        | zero => rfl
        | succ j => rw [e] at hk; simp at hk
      have e : k = acc.length := by omega
      subst e
      simp at hk
      exact hk ▸ hp) fun acc H' q p nq => by
    obtain ⟨rfl, hl, p⟩ := p
    exact done acc q hl p nq
theorem lc_rng (P : Nat → V → Prop) (hn : n < 100000) (turn : ∀ i d acc (R : VK), i < n → H d = none → (∀ y H5, Ex (upd H d (.lst acc)) H5 → P i y → R y H5) → elt (put (wipe σ [m]) m (.int i)) (upd H d (.lst acc)) R noW)
    (done : ∀ ys q, ys.length = n → (∀ i y, ys[i]? = some y → P i y) → H q = none → Q (.ref q) (upd H q (.lst ys))) : LcB n (fun _ => True) (fun i H k => k (.int i) H) (gName m) tY elt [m] σ H Q :=
  lc_gen (fun i x => x = .int i) (fun _ _ _ _ k => k _ rfl) P hn trivial (fun i x d acc R hi e nd k => by subst e; exact turn i d acc R hi nd k) done
theorem lc_rg2 (P : Nat → V → Prop) (hn : n < 100000) (turn : ∀ i d acc (R : VK), i < n → H d = none → (∀ y H5, Ex (upd H d (.lst acc)) H5 → P i y → R y H5) → elt (put (wipe σ [m]) m (.int (lo + i))) (upd H d (.lst acc)) R noW)
    (done : ∀ ys q, ys.length = n → (∀ i y, ys[i]? = some y → P i y) → H q = none → Q (.ref q) (upd H q (.lst ys))) : LcB n (fun _ => True) (yRg lo) (gName m) tY elt [m] σ H Q :=
  lc_gen (fun i x => x = .int (lo + i)) (fun _ _ _ _ k => k _ rfl) P hn trivial (fun i x d acc R hi e nd k => by subst e; exact turn i d acc R hi nd k) done
theorem lc_at (P : Nat → V → Prop) (hn : xs.length < 100000) (hG : G H) (turn : ∀ i x d acc (R : VK), xs[i]? = some x → H d = none → (∀ y H5, Ex (upd H d (.lst acc)) H5 → P i y → R y H5) → elt (put (wipe σ [m]) m x) (upd H d (.lst acc)) R noW)
    (done : ∀ ys q, ys.length = xs.length → (∀ i y, ys[i]? = some y → P i y) → H q = none → Q (.ref q) (upd H q (.lst ys))) : LcB xs.length G (yAt xs) (gName m) tY elt [m] σ H Q :=
  lc_gen (fun i x => xs[i]? = some x) (fun _ _ _ _ k => k) P hn hG (fun i x d acc R hi e nd k => turn i x d acc R e nd k) done
/-- with a test: f tells its answer, gx the item -/
theorem lc_fm {tc : RT} (f : V → Bool) (gx : V → V) (hn : xs.length < 100000) (hG : G H)
    (turn : ∀ (i : Nat) x d acc (R : Bool → Hp → Prop), xs[i]? = some x → H d = none → (∀ H5, Ex (upd H d (.lst acc)) H5 → R (f x) H5) → tc (put (wipe σ [m]) m x) (upd H d (.lst acc)) R noW)
    (item : ∀ (i : Nat) x d acc H4 (R : VK), xs[i]? = some x → f x = true → H d = none → Ex (upd H d (.lst acc)) H4 → (∀ H5, Ex (upd H d (.lst acc)) H5 → R (gx x) H5) → elt (put (wipe σ [m]) m x) H4 R noW)
    (done : ∀ q, H q = none → Q (.ref q) (upd H q (.lst ((xs.filter f).map gx)))) : LcB xs.length G (yAt xs) (gName m) tc elt [m] σ H Q :=
  lcB (fun i acc H' => H' = H ∧ acc = ((xs.take i).filter f).map gx) ⟨rfl, by simp⟩ (fun i acc H' hi p => by
    obtain ⟨rfl, rfl⟩ := p
    refine ⟨hG, ?_⟩
    have h1 := List.length_filter_le f (xs.take i)
    have h2 := List.length_take_le i xs
    rw [List.length_map]
    omega) (fun i acc H' d hi p nd => by
    obtain ⟨rfl, rfl⟩ := p
    intro x hx
    have ht : xs.take (i + 1) = xs.take i ++ [x] := by rw [List.take_succ, hx]; rfl
    refine ⟨wipe_put, turn i x d _ _ hx nd fun H5 x5 => ⟨fun hf => item i x d _ _ _ hx hf nd x5 fun H6 x6 => ⟨H', nd, x6, rfl, ?_⟩, fun hf => ⟨H', nd, x5, rfl, ?_⟩⟩⟩
    · rw [ht, List.filter_append, List.map_append]
      simp [List.filter, hf]
    · rw [ht, List.filter_append]
      simp [List.filter, hf]) fun acc H' q p nq => by
    obtain ⟨rfl, rfl⟩ := p
    rw [List.take_length]
    exact done q nq
theorem list3 {ys : List V} (h : ys.length = 3) : ∃ a b c, ys = [a, b, c] := by
  match ys, h with
  | [a, b, c], _ => exact ⟨a, b, c, rfl⟩
theorem all_bl {ys : List V} {b : Bool} (h : ∀ (i : Nat) (y : V), ys[i]? = some y → y = .bl b) : ys = List.replicate ys.length (V.bl b) :=
  List.eq_replicate_iff.mpr ⟨rfl, fun y hy => by
    obtain ⟨i, hi⟩ := List.getElem?_of_mem hy
    exact h i y hi⟩
theorem all_int {ys : List V} {f : Nat → Int} {n : Nat} (hl : ys.length = n) (h : ∀ (i : Nat) (y : V), ys[i]? = some y → y = .int (f i)) : ys = ((List.range n).map f).map V.int := by
  refine List.ext_getElem? fun i => ?_
  rw [List.map_map, List.getElem?_map]
  by_cases hi : i < n
  · obtain ⟨y, hy⟩ : ∃ y, ys[i]? = some y := ⟨ys[i], by simp [hl, hi]⟩
    rw [hy, h i y hy]
    simp [hi]
  · rw [List.getElem?_eq_none (by omega)]
    simp [show n ≤ i by omega]
theorem turns_nat {l m : Int} {i : Nat} (hm : 1 ≤ m) (h : i < (if (if l < m then l else m) > 1 then (if l < m then l else m) else 1).toNat) : (i : Int) < m := by
  split at h <;> (try split at h) <;> omega
theorem turns_ok {l m : Int} (hm : m ≤ 1000000) : -(2 ^ 62) ≤ (if (if l < m then l else m) > 1 then (if l < m then l else m) else 1) ∧ (if (if l < m then l else m) > 1 then (if l < m then l else m) else 1) < 2 ^ 62 := by
  split <;> (try split) <;> omega
/-- an item of a list, whichever -/
theorem ix_any {K : PySem.W.Frag} {l : Addr} {d : Int} (hl : H l = some (.lst xs)) (g : 0 ≤ d) (lt : d < xs.length) (q : ∀ v ∈ xs, Q v H) : oIxL K (.ref l) (.int d) H Q := by
  obtain ⟨k, rfl⟩ := Int.eq_ofNat_of_zero_le g
  have lt : k < xs.length := by omega
  exact ⟨l, xs, _, xs[k], rfl, rfl, .of hl, atI_nat (by simp [lt]), q _ (List.getElem_mem lt)⟩
theorem all_mem {α : Type} {P : α → Prop} : ∀ {xs : List α}, xs.foldr (fun x p => P x ∧ p) True → ∀ v ∈ xs, P v
  | [], _, _, h => nomatch h
  | x :: xs, h, v, hv => by
    rcases List.mem_cons.mp hv with rfl | hv
    · exact h.1
    · exact all_mem h.2 v hv
end
theorem FnG.imp {P : Program} {w : World} {K : PySem.W.Frag} {mg : Str → Option Value} {base : Heap} {k : Nat} {f : Addr} {fd : FuncData} {ps : List Str} {sp sp' : Sp} (F : FnG P w K mg base k f fd ps sp) (h : ∀ vs H Q E, sp' vs H Q E → sp vs H Q E) : FnG P w K mg base k f fd ps sp' :=
  ⟨fun vs H Q E q => F.len vs H Q E (h _ _ _ _ q), fun A outer s H1 args us vs H Q E hr hg e0 hb r x q => F.run A outer s H1 args us vs H Q E hr hg e0 hb r x (h _ _ _ _ q)⟩
/-- what a law's end asks of the law's def -/
def sp_end (K : PySem.W.Frag) : Sp := fun vs H Q _ => ∃ (a : Addr) (ns : List Int), vs = [.ref a] ∧ SqL K H a (ns.map V.int) ∧ ns.length ≤ 63 ∧ ∀ H', Q (.bl true) H'
theorem FnG.atEnd {P : Program} {w : World} {K : PySem.W.Frag} {mg : Str → Option Value} {base : Heap} {k : Nat} {f : Addr} {fd : FuncData} {x : Str} {sp : Sp} (F : FnG P w K mg base k f fd [x] sp)
    (h : ∀ {a : Addr} {ns : List Int} {H : Hp}, SqL K H a (ns.map V.int) → ns.length ≤ 63 → ∀ {Q : VK} {E : XK}, (∀ H, Q (.bl true) H) → sp [.ref a] H Q E) : FnG P w K mg base k f fd [x] (sp_end K) :=
  F.imp fun vs H Q E ⟨a, ns, e, hs, hl, q⟩ => by
    subst e
    exact h hs hl q
/-! ## the order of tuples of ints and bools -/
def num : V → Int
  | .int i => i
  | .bl b => b2i b
  | _ => 0
def sameK : V → V → Bool
  | .int _, .int _ => true
  | .bl _, .bl _ => true
  | _, _ => false
def lexR (r : Int → Int → Bool) : List V → List V → Bool
  | x :: xs, y :: ys => if num x = num y then lexR r xs ys else r (num x) (num y)
  | _, _ => false
theorem lexAt_eq (r : Int → Int → Bool) : ∀ (xs ys p1 p2 : List V), p1.length = p2.length → xs.length = ys.length →
    Ob.lexAt (fun j => decide (num ((p1 ++ xs).getD j .non) = num ((p2 ++ ys).getD j .non))) (fun j => r (num ((p1 ++ xs).getD j .non)) (num ((p2 ++ ys).getD j .non))) false p1.length xs.length = lexR r xs ys
  | [], [], _, _, _, _ => rfl
  | x :: xs, y :: ys, p1, p2, hp, hl => by
    have ih := lexAt_eq r xs ys (p1 ++ [x]) (p2 ++ [y]) (by simp [hp]) (by simpa using hl)
    rw [List.length_cons, Ob.lexAt_succ]
    have g1 : (p1 ++ x :: xs).getD p1.length .non = x := by simp [List.getD_eq_getElem?_getD]
    have g2 : (p2 ++ y :: ys).getD p1.length .non = y := by rw [hp]; simp [List.getD_eq_getElem?_getD]
    rw [g1, g2]
    simp only [List.append_assoc, List.cons_append, List.nil_append, List.length_append, List.length_cons, List.length_nil] at ih
    unfold lexR
    by_cases h : num x = num y
    · rw [if_pos (decide_eq_true h), if_pos h]
      exact ih
    · rw [if_neg (by simpa using h), if_neg h]
theorem sameK_at : ∀ {xs ys : List V} {its its2 : List Value}, Vals xs its → Vals ys its2 → (xs.zip ys).all (fun p => sameK p.1 p.2) = true → ∀ (j : Nat) (h1 : j < its.length) (h2 : j < its2.length),
    (∃ i k t u, its[j] = .int i t ∧ its2[j] = .int k u ∧ num (xs.getD j .non) = i ∧ num (ys.getD j .non) = k) ∨ ∃ a b, its[j] = .bool a ∧ its2[j] = .bool b ∧ num (xs.getD j .non) = b2i a ∧ num (ys.getD j .non) = b2i b
  | x :: _, y :: _, u :: _, v :: _, .cons r1 t1, .cons r2 t2, h, 0, _, _ => by
    simp only [List.zip_cons_cons, List.all_cons, Bool.and_eq_true] at h
    have h := h.1
    match x, y, r1, r2, h with
    | .bl a, .bl b, r1, r2, _ => exact .inr ⟨a, b, r1, r2, rfl, rfl⟩
    | .int i, .int k, ⟨t, e1⟩, ⟨w, e2⟩, _ => exact .inl ⟨i, k, t, w, e1, e2, rfl, rfl⟩
  | _, _, _, _, .cons r1 t1, .cons r2 t2, h, j + 1, h1, h2 => by
    simp only [List.zip_cons_cons, List.all_cons, Bool.and_eq_true] at h
    have := sameK_at t1 t2 h.2 j (by simpa using h1) (by simpa using h2)
    simpa using this
theorem b2i_eq {a b : Bool} : (a == b) = decide (b2i a = b2i b) := by cases a <;> cases b <;> rfl
section
variable {X : Cx} {j : Nat} {W : WX}
theorem tuples_op {op : CmpOp} {r : Int → Int → Bool} {pins : List (Addr × Obj)} {s : Shared} {σ : St} {H : Hp} {a b : Addr} {xs ys : List V} {Q : VK} (I : Inv X pins σ H s) (ha : SqT X.K H a xs) (hb : SqT X.K H b ys) (hl : xs.length = ys.length) (hk : (xs.zip ys).all (fun p => sameK p.1 p.2) = true)
    (rI : ∀ i k t u, Ob.RcOp op X.A.in1 s (.int i t) (.int k u) (r i k)) (rB : ∀ x y, Ob.RcOp op X.A.in1 s (.bool x) (.bool y) (r (b2i x) (b2i y)))
    (T : ∀ (its its2 : List Value) (e q : Nat → Bool), s.heap.IsTuple a its.toArray → s.heap.IsTuple b its2.toArray → its.length = its2.length → (∀ j (h1 : j < its.toArray.size) (h2 : j < its2.toArray.size), SeqAt.EqAt X.A.in1 s its.toArray[j] its2.toArray[j] (e j)) →
      (∀ j (h1 : j < its.toArray.size) (h2 : j < its2.toArray.size), e j = false → Ob.RcOp op X.A.in1 s its.toArray[j] its2.toArray[j] (q j)) → Ob.RcOp op X.A s (.ref a) (.ref b) (Ob.lexAt e q false 0 its.length))
    (q : Q (.bl (lexR r xs ys)) H) (hc : compareOp op (.ref a) (.ref b) = richCompare op (.ref a) (.ref b) := by rfl) : wpAny (model X.prog X.w) X.A (compareOp op (.ref a) (.ref b)) (EP X pins σ Q) X.xe s := by
  obtain ⟨its, r1, p1, _⟩ := I.tuple ha
  obtain ⟨its2, r2, p2, _⟩ := I.tuple hb
  have k := sameK_at r1 r2 hk
  have R := T its its2 (fun j => decide (num (xs.getD j .non) = num (ys.getD j .non))) (fun j => r (num (xs.getD j .non)) (num (ys.getD j .non))) p1 p2 (by rw [← r1.length, ← r2.length]; exact hl) (fun j h1 h2 => by
    simp only [List.getElem_toArray]
    rcases k j (by simpa using h1) (by simpa using h2) with ⟨i, k, t, u, e1, e2, e3, e4⟩ | ⟨x, y, e1, e2, e3, e4⟩
    · rw [e1, e2, e3, e4]
      have z : (i == k) = decide (i = k) := rfl
      rw [← z]
      exact SeqAt.EqAt.int_int _ _ _ _
    · rw [e1, e2, e3, e4, ← b2i_eq]
      exact SeqAt.EqAt.bool_bool _ _) (fun j h1 h2 _ => by
    simp only [List.getElem_toArray]
    rcases k j (by simpa using h1) (by simpa using h2) with ⟨i, k, t, u, e1, e2, e3, e4⟩ | ⟨x, y, e1, e2, e3, e4⟩
    · rw [e1, e2, e3, e4]
      exact rI _ _ _ _
    · rw [e1, e2, e3, e4]
      exact rB _ _)
  have e := lexAt_eq r xs ys [] [] rfl hl
  simp only [List.nil_append, List.length_nil] at e
  rw [← r1.length, e] at R
  rw [hc]
  exact R X.prog X.w X.xe (EP X pins σ Q) ⟨.bl _, H, I, rfl, q⟩
def oLexT (K : PySem.W.Frag) (r : Int → Int → Bool) : RO := fun x y H Q => ∃ a b xs ys, x = .ref a ∧ y = .ref b ∧ SqT K H a xs ∧ SqT K H b ys ∧ xs.length = ys.length ∧ (xs.zip ys).all (fun p => sameK p.1 p.2) = true ∧ Q (.bl (lexR r xs ys)) H
abbrev oGtT (K : PySem.W.Frag) : RO := oLexT K fun i j => decide (j < i)
abbrev oLtT (K : PySem.W.Frag) : RO := oLexT K fun i j => decide (i < j)
theorem so_lex {op : CmpOp} {r : Int → Int → Bool} (h : ∀ pins s σ H a b xs ys (Q : VK), Inv X pins σ H s → SqT X.K H a xs → SqT X.K H b ys → xs.length = ys.length → (xs.zip ys).all (fun p => sameK p.1 p.2) = true → Q (.bl (lexR r xs ys)) H → wpAny (model X.prog X.w) X.A (compareOp op (.ref a) (.ref b)) (EP X pins σ Q) X.xe s) : SO X (compareOp op) (oLexT X.K r) :=
  fun x y H Q ⟨a, b, xs, ys, e1, e2, ha, hb, hl, hk, q⟩ => by
    subst e1; subst e2
    intro H1 e pins s σ v u I rx ry
    cases rx
    cases ry
    exact h pins s σ H1 a b xs ys _ I (e.sqT ha) (e.sqT hb) hl hk ⟨H, e, q⟩
theorem o_gtT (hu : X.A.units < cLine) : SO X (compareOp .Gt) (oGtT X.K) := so_lex fun pins s σ H a b xs ys Q I ha hb hl hk q =>
  tuples_op I ha hb hl hk (fun i k t u => Ob.RcOp.gt_int _ _ _ _) (fun x y => fun _ _ _ _ h => PyProof.Rows.gt_bool h) (fun its its2 e q p1 p2 hz he hr => by
    have R := Ob.RcOp.tuples_gt p1 p2 hu he hr
    have e0 : decide (its.toArray.size > its2.toArray.size) = false := by simp [hz]
    have e1 : min its.toArray.size its2.toArray.size = its.length := by simp [hz]
    rw [e0, e1] at R
    exact R) q
theorem o_ltT (hu : X.A.units < cLine) : SO X (compareOp .Lt) (oLtT X.K) := so_lex fun pins s σ H a b xs ys Q I ha hb hl hk q =>
  tuples_op I ha hb hl hk (fun i k t u => Ob.RcOp.lt_int _ _ _ _) (fun x y => fun _ _ _ _ h => PyProof.Rows.lt_bool h) (fun its its2 e q p1 p2 hz he hr => by
    have R := Ob.RcOp.tuples_lt p1 p2 hu he hr
    have e0 : decide (its.toArray.size < its2.toArray.size) = false := by simp [hz]
    have e1 : min its.toArray.size its2.toArray.size = its.length := by simp [hz]
    rw [e0, e1] at R
    exact R) q
/-- with the room of the def around -/
def SOr (X : Cx) (f : Value → Value → Sem Value) (r : RO) : Prop := X.A.units < cLine → SO X f r
theorem b_cmpr {op : CmpOp} {r : RO} {a b : Expr} {pos : Pos} {ta tb : RX} (ho : SOr X (compareOp op) r) (ha : SX X j ta a) (hb : SX X j tb b) (hm : behindInMarks op b = false := by first | exact nomark _ | with_unfolding_all rfl) : SB X j (tCmp r ta tb) (.Compare a [op] [b] pos) :=
  ⟨fun c _ _ _ h => (b_cmp (ho (by have := hu_of c.room; omega)) ha hb hm).run c h⟩
theorem s_cmpr {op : CmpOp} {r : RO} {a b : Expr} {pos : Pos} {ta tb : RX} (ho : SOr X (compareOp op) r) (ha : SX X j ta a) (hb : SX X j tb b) (hm : behindInMarks op b = false := by first | exact nomark _ | with_unfolding_all rfl) : SX X j (rBin r ta tb) (.Compare a [op] [b] pos) :=
  ⟨fun c _ _ _ h => (s_cmp (ho (by have := hu_of c.room; omega)) ha hb hm).run c h⟩
/-! ## sorted of ints -/
def cSorted (K : PySem.W.Frag) : RC := c1 fun x H Q => ∃ (a : Addr) (ns : List Int), x = .ref a ∧ SqL K H a (ns.map V.int) ∧ ∀ (ns' : List Int) (p : Addr), ns'.Perm ns → ns'.Pairwise (· ≤ ·) → H p = none → Q (.ref p) (upd H p (.lst (ns'.map V.int)))
theorem c_sorted : SC X (.builtin "sorted") (cSorted X.K) := sc1 fun x H Q ⟨a, ns, e, hs, q⟩ => by
  subst e
  exact .of cr_sortedI fun H1 x => ⟨a, ns, rfl, x.sqL hs, fun ns' p h1 h2 n => ⟨_, x.set p _, q ns' p h1 h2 (x.free n)⟩⟩
end
/-! ## steps, counts -/
theorem lowb_ex : ∀ {n : Nat}, 0 < n → ∃ j : Nat, lowb (n : Int) = 2 ^ j ∧ (n : Int) % 2 ^ j = 0 ∧ (n : Int) % (2 * 2 ^ j) ≠ 0 := fun {n} => by
  induction n using Nat.strongRecOn with
  | _ n ih =>
    intro h
    have key : ∃ j : Nat, (n : Int) % 2 ^ j = 0 ∧ (n : Int) % (2 * 2 ^ j) ≠ 0 := by
      by_cases hp : n % 2 = 1
      · exact ⟨0, by omega, by omega⟩
      · obtain ⟨m, rfl⟩ : ∃ m, n = 2 * m := ⟨n / 2, by omega⟩
        obtain ⟨j, -, h1, h2⟩ := ih m (by omega) (by omega)
        refine ⟨j + 1, ?_, fun z => h2 ?_⟩
        · rw [Int.pow_succ, Int.mul_comm, Int.natCast_mul]
          show (2 : Int) * m % (2 * 2 ^ j) = 0
          rw [Int.mul_emod_mul_of_pos _ _ (by decide), h1]
          rfl
        · rw [Int.pow_succ, Int.mul_comm (2 ^ j), Int.natCast_mul] at z
          have z : (2 : Int) * m % (2 * (2 * 2 ^ j)) = 0 := z
          rw [Int.mul_emod_mul_of_pos _ _ (by decide)] at z
          omega
    obtain ⟨j, h1, h2⟩ := key
    exact ⟨j, lowb_is (by omega) h1 h2, h1, h2⟩
theorem lowb_two {n : Int} (h : 0 < n) : ∃ j : Nat, lowb n = 2 ^ j ∧ n % 2 ^ j = 0 ∧ n % (2 * 2 ^ j) ≠ 0 := by
  obtain ⟨m, rfl⟩ := Int.eq_ofNat_of_zero_le (Int.le_of_lt h)
  exact lowb_ex (by omega)
theorem pow_dvd {i j : Nat} {x : Int} (h : i ≤ j) (hx : x % 2 ^ j = 0) : x % 2 ^ i = 0 := by
  obtain ⟨k, rfl⟩ := Nat.le.dest h
  have d : (2 : Int) ^ i ∣ 2 ^ (i + k) := ⟨2 ^ k, Int.pow_add 2 i k⟩
  exact Int.emod_eq_zero_of_dvd (Int.dvd_trans d (Int.dvd_of_emod_eq_zero hx))
theorem pow_lt {i j : Nat} : (2 : Int) ^ i < 2 ^ j ↔ i < j := by
  constructor
  · intro h
    rcases Nat.lt_or_ge i j with z | z
    · exact z
    · have := pow_mono z
      omega
  · intro h
    have h1 := pow_mono (show i + 1 ≤ j from h)
    have h2 : (2 : Int) ^ (i + 1) = 2 * 2 ^ i := by rw [Int.pow_succ, Int.mul_comm]
    have h3 : (0 : Int) < 2 ^ i := Int.pow_pos (by decide)
    omega
/-- a greater step: twice the step divides it -/
theorem lowb_gt {x v : Int} (hx : 0 < x) (hv : 0 < v) : lowb v < lowb x ↔ x % (2 * lowb v) = 0 := by
  obtain ⟨i, e1, a1, b1⟩ := lowb_two hx
  obtain ⟨j, e2, a2, b2⟩ := lowb_two hv
  rw [e1, e2, pow_lt]
  have e3 : (2 : Int) * 2 ^ j = 2 ^ (j + 1) := by rw [Int.pow_succ, Int.mul_comm]
  have e4 : (2 : Int) * 2 ^ i = 2 ^ (i + 1) := by rw [Int.pow_succ, Int.mul_comm]
  rw [e3]
  rw [e4] at b1
  constructor
  · intro h
    exact pow_dvd h a1
  · intro h
    rcases Nat.lt_or_ge j i with z | z
    · exact z
    · exact absurd (pow_dvd (Nat.succ_le_succ z) h) b1
theorem lowb_ge {x v : Int} (hx : 0 < x) (hv : 0 < v) : lowb v ≤ lowb x ↔ x % lowb v = 0 := by
  obtain ⟨i, e1, a1, b1⟩ := lowb_two hx
  obtain ⟨j, e2, a2, b2⟩ := lowb_two hv
  rw [e1, e2]
  constructor
  · intro h
    have : j ≤ i := by
      rcases Nat.lt_or_ge i j with z | z
      · have := pow_lt.mpr z
        omega
      · exact z
    exact pow_dvd this a1
  · intro h
    rcases Nat.lt_or_ge i j with z | z
    · have e4 : (2 : Int) * 2 ^ i = 2 ^ (i + 1) := by rw [Int.pow_succ, Int.mul_comm]
      rw [e4] at b1
      exact absurd (pow_dvd z h) b1
    · exact pow_mono z
/-- how many there are: h / m - (l - 1) / m, one by one -/
def ctM (a h m : Int) : Int := h / m - (a - 1) / m
theorem div_step {h m : Int} (hm : 0 < m) : (h + 1) / m = h / m + if (h + 1) % m = 0 then 1 else 0 := by
  have e1 := Int.mul_ediv_add_emod h m
  have e2 := Int.mul_ediv_add_emod (h + 1) m
  have r1 := Int.emod_nonneg h (show m ≠ 0 by omega)
  have r2 := Int.emod_lt_of_pos h hm
  have s1 := Int.emod_nonneg (h + 1) (show m ≠ 0 by omega)
  have s2 := Int.emod_lt_of_pos (h + 1) hm
  generalize h / m = a at *
  generalize (h + 1) / m = b at *
  generalize h % m = p at *
  generalize (h + 1) % m = q at *
  have e : m * (b - a) = p + 1 - q := by rw [Int.mul_sub]; omega
  have b1 : b - a ≤ 1 := by
    rcases Int.lt_or_le 1 (b - a) with z | z
    · have := Int.mul_le_mul_of_nonneg_left (show 2 ≤ b - a by omega) (Int.le_of_lt hm)
      omega
    · exact z
  have b0 : 0 ≤ b - a := by
    rcases Int.lt_or_le (b - a) 0 with z | z
    · have := Int.mul_le_mul_of_nonneg_left (show b - a ≤ -1 by omega) (Int.le_of_lt hm)
      omega
    · exact z
  have hc : b - a = 0 ∨ b - a = 1 := by omega
  rcases hc with z | z
  · rw [z, Int.mul_zero] at e
    rw [if_neg (by omega)]
    omega
  · rw [z, Int.mul_one] at e
    rw [if_pos (by omega)]
    omega
theorem cntM_ct {a h m : Int} (hh : a ≤ h + 1) : cntM a h m = ctM a h m := by
  unfold cntM ctM
  by_cases z : a ≤ h
  · rw [if_pos (decide_eq_true z)]
  · rw [if_neg (by simpa using z), show a - 1 = h by omega]
    omega
theorem cntM_empty {a h m : Int} (hh : h < a) : cntM a h m = 0 := by
  unfold cntM
  rw [if_neg (by simpa using hh)]
theorem cntM_add {a k h m : Int} (h1 : a ≤ k + 1) (h2 : k ≤ h) : cntM a k m + cntM (k + 1) h m = cntM a h m := by
  rw [cntM_ct h1, cntM_ct (by omega), cntM_ct (by omega)]
  unfold ctM
  rw [show k + 1 - 1 = k by omega]
  omega
theorem cntM_succ {a h m : Int} (h1 : a ≤ h + 1) (hm : 0 < m) : cntM a (h + 1) m = cntM a h m + if (h + 1) % m = 0 then 1 else 0 := by
  rw [cntM_ct h1, cntM_ct (by omega)]
  unfold ctM
  rw [div_step hm]
  omega
theorem cntS_add {v a k h : Int} (h1 : a ≤ k + 1) (h2 : k ≤ h) : cntS v a k + cntS v (k + 1) h = cntS v a h := by
  unfold cntS
  by_cases hv : v = 0
  · simp [hv]
  · rw [if_neg hv, if_neg hv, if_neg hv]
    have e1 := cntM_add (m := 2 * lowb v) h1 h2
    have key : ∀ m, cntM (if v + 1 > a then v + 1 else a) k m + cntM (if v + 1 > k + 1 then v + 1 else k + 1) h m = cntM (if v + 1 > a then v + 1 else a) h m := fun m => by
      by_cases hk : v ≤ k
      · rw [show (if v + 1 > k + 1 then v + 1 else k + 1) = k + 1 by split <;> omega]
        exact cntM_add (by split <;> omega) h2
      · rw [show (if v + 1 > k + 1 then v + 1 else k + 1) = v + 1 by split <;> omega, show (if v + 1 > a then v + 1 else a) = v + 1 by split <;> omega, cntM_empty (by omega)]
        omega
    have e2 := key (lowb v)
    have e3 := key (2 * lowb v)
    omega
theorem cntS_empty {v a h : Int} (hh : h < a) : cntS v a h = 0 := by
  unfold cntS
  split
  · rfl
  · rw [cntM_empty hh, cntM_empty (by split <;> omega), cntM_empty (by split <;> omega)]
    rfl
/-- one more version: does it precede v -/
theorem cntS_succ {v a h : Int} (v0 : 0 ≤ v) (a0 : 0 ≤ a) (h1 : a ≤ h + 1) : cntS v a (h + 1) = cntS v a h + if precB (h + 1) v = true then 1 else 0 := by
  unfold cntS
  by_cases hv : v = 0
  · subst hv
    rw [if_pos rfl, if_pos rfl, if_neg]
    · rfl
    · unfold precB
      simp
  · rw [if_neg hv, if_neg hv]
    have lp := lowb_pos (v := v) (by omega)
    rw [cntM_succ h1 (by omega)]
    have up : ∀ m : Int, 0 < m → cntM (if v + 1 > a then v + 1 else a) (h + 1) m = cntM (if v + 1 > a then v + 1 else a) h m + if v < h + 1 ∧ (h + 1) % m = 0 then 1 else 0 := fun m hm => by
      by_cases z : v < h + 1
      · rw [cntM_succ (by split <;> omega) hm]
        simp [z]
      · rw [cntM_empty (by split <;> omega), cntM_empty (by split <;> omega)]
        simp [z]
    rw [up _ lp, up _ (by omega)]
    by_cases z : h + 1 = 0
    · rw [z]
      have : precB 0 v = true := by unfold precB; simp; omega
      rw [this]
      simp [show ¬ v < 0 by omega]
      omega
    · have hx : 0 < h + 1 := by omega
      have g := lowb_gt hx (show 0 < v by omega)
      have ge := lowb_ge hx (show 0 < v by omega)
      have e : precB (h + 1) v = if lowb (h + 1) = lowb v then decide (h + 1 > v) else decide (lowb (h + 1) > lowb v) := by
        unfold precB
        rw [if_neg]
        simp [z, hv]
      rw [e]
      by_cases q1 : (h + 1) % (2 * lowb v) = 0
      · have l := g.mpr q1
        have q2 := ge.mp (Int.le_of_lt l)
        rw [if_neg (show ¬ lowb (h + 1) = lowb v by omega)]
        simp [q1, q2, l]
        omega
      · have l := fun z => q1 (g.mp z)
        by_cases q2 : (h + 1) % lowb v = 0
        · have l2 := ge.mpr q2
          have l3 : lowb (h + 1) = lowb v := by omega
          rw [if_pos l3]
          by_cases q3 : v < h + 1 <;> simp [q1, q2, q3]
          omega
        · have l2 := fun z => q2 (ge.mp z)
          rw [if_neg (show ¬ lowb (h + 1) = lowb v by omega)]
          simp [q1, q2, show ¬ lowb (h + 1) > lowb v by omega]
/-- counts over l, l + 1, .. -/
theorem cnt_range (f : Int → Int) (p : Int → Bool) (l : Int) (h0 : f (l - 1) = 0) (hs : ∀ h, l ≤ h + 1 → f (h + 1) = f h + if p (h + 1) = true then 1 else 0) : ∀ n : Nat, f (l + n - 1) = (((List.range n).map fun (i : Nat) => l + (i : Int)).filter p).length
  | 0 => by simpa using h0
  | n + 1 => by
    have ih := cnt_range f p l h0 hs n
    have st := hs (l + n - 1) (by omega)
    rw [show l + (n : Int) - 1 + 1 = l + n by omega] at st
    rw [List.range_succ, List.map_append, List.filter_append, List.length_append, show l + ((n + 1 : Nat) : Int) - 1 = l + n by omega, st, ih]
    cases e : p (l + n) <;> simp [e]
/-! ## classes: instances, fields, methods -/
/-- a method that stands in a class -/
structure DefM (K : PySem.W.Frag) (C : Addr) (m qual : Str) (st : Stmt) (ps : List Str) : Type where
  f : Addr
  fd : FuncData
  F : Fun K m qual st f fd
  mt : Meth K C m f
  b : Binds K fd ps []
/-- one with keyword-only parameters that have defaults -/
structure DefMK (K : PySem.W.Frag) (C : Addr) (m qual : Str) (st : Stmt) (kws : List (Str × V)) : Type where
  f : Addr
  fd : FuncData
  F : FunD K m qual (defArgs st) (defBody st) (defScope st) [] kws f fd
  mt : Meth K C m f
structure CalM (P : Program) (w : World) (K : PySem.W.Frag) (mg : Str → Option Value) (base : Heap) (C : Addr) (m : Str) (k : Nat) (ps : List Str) (dvs : List V) (sp : Sp) : Prop where
  ex : ∃ (f : Addr) (fd : FuncData) (ds : List Value), FnG P w K mg base k f fd ps sp ∧ Meth K C m f ∧ Binds K fd ps ds ∧ Vals dvs ds
/-- called with n positional values (self too) and the keywords ks -/
structure CalMK (P : Program) (w : World) (K : PySem.W.Frag) (mg : Str → Option Value) (base : Heap) (C : Addr) (m : Str) (k n : Nat) (ks : List Str) (gV : List V → List V → List V) (sp : Sp) : Prop where
  ex : ∃ (f : Addr) (fd : FuncData) (ps : List Str) (g : List Value → List Value → List Value), FnG P w K mg base k f fd ps sp ∧ Meth K C m f ∧ KBn K fd ps n ks g gV
/-- a class that is made -/
structure MkC (K : PySem.W.Frag) (mg : Str → Option Value) (x : Str) (C : Addr) : Prop where
  g : mg x = some (.ref C)
  makes : PySem.W.makesIn K C = true
  kp : PySem.W.keepIn K (.ref C) = true
section
variable {P : Program} {w : World} {K : PySem.W.Frag} {mg : Str → Option Value} {base : Heap} {n m qual : Str} {st : Stmt} {ps N : List Str} {k : Nat} {zs : RS} {C : Addr} {kws : List (Str × V)}
theorem DefM.rfng (d : DefM K C m qual st ps) (S : FnScope N ps (defScope st)) (hb : Body P w K mg base N qual st d.f k zs) : FnG P w K mg base (k + 1) d.f d.fd ps (rFn ps.length N zs) :=
  fng_of d.F S (fun vs H Q E h => h.1) fun cd A outer s H1 E1 W vs H Q E c o hW h => by
    have c2 : Cn (fx P w K mg base N qual st d.f cd A outer s H1 E1) (upW fun c d _ H' => E c d H') k := ⟨c.room, c.gd, c.tk.imp fun c0 d0 σ0 H0 ⟨H2, x2, q⟩ => c.wu _ _ _ _ _ (hW _ _ _ _ q) x2, fun c d σ H H' ⟨H2, x2, q⟩ x => ⟨H2, x2.trans x, q⟩⟩
    exact ((hb cd A outer s H1 E1).run c2 o h.2).le rfn_ends
theorem DefM.rcal (d : DefM K C m qual st ps) (S : FnScope N ps (defScope st)) (hb : Body P w K mg base N qual st d.f k zs) : CalM P w K mg base C m (k + 1) ps [] (rFn ps.length N zs) :=
  ⟨d.f, d.fd, [], d.rfng S hb, d.mt, d.b, .nil⟩
theorem DefMK.rfng (d : DefMK K C m qual st kws) (S : FnScope N ps (defScope st)) (hb : Body P w K mg base N qual st d.f k zs) : FnG P w K mg base (k + 1) d.f d.fd ps (rFn ps.length N zs) := by
  obtain ⟨oc, od, dV, kV, doc, pm, an, cdv, ct, osl, e, lk, hcd, hD, hK⟩ := d.F.ex
  rcases hD with ⟨_, rfl⟩ | ⟨z, _⟩
  · exact fng_of ⟨⟨oc, od, kV, doc, pm, an, cdv, ct, osl, e, lk, hcd⟩, d.F.kp⟩ S (fun vs H Q E h => h.1) fun cd A outer s H1 E1 W vs H Q E c o hW h => by
      have c2 : Cn (fx P w K mg base N qual st d.f cd A outer s H1 E1) (upW fun c d _ H' => E c d H') k := ⟨c.room, c.gd, c.tk.imp fun c0 d0 σ0 H0 ⟨H2, x2, q⟩ => c.wu _ _ _ _ _ (hW _ _ _ _ q) x2, fun c d σ H H' ⟨H2, x2, q⟩ x => ⟨H2, x2.trans x, q⟩⟩
      exact ((hb cd A outer s H1 E1).run c2 o h.2).le rfn_ends
  · exact absurd rfl z
theorem DefMK.cal0 {sp : Sp} (d : DefMK K C m qual st kws) (F : FnG P w K mg base k d.f d.fd ps sp) (n : Nat) (hk : kws ≠ []) (hn : n + kws.length = ps.length)
    (h : ∀ (D : Addr) (doc pm : Value) (an : Option Addr) (cdv ct : Value) (us ks : List Value), us.length = n → ks.length = kws.length →
      KwChain D ((kws.map (·.1)).zip ks) (bindArgs (PySem.W.fnOf m qual (defArgs st) (defBody st) (defScope st) .none (.ref D) doc pm an cdv ct) ⟨us, []⟩) (ps.zip (us ++ ks))) : CalM P w K mg base C m k ps (kws.map (·.2)) sp := by
  obtain ⟨ds, hv, hb⟩ := d.F.binds0 (ps := ps) n hk hn h
  exact ⟨d.f, d.fd, ds, F, d.mt, hb, hv⟩
theorem DefMK.calK {sp : Sp} (d : DefMK K C m qual st kws) (F : FnG P w K mg base k d.f d.fd ps sp) (n : Nat) (ks : List Str) (ms : List (Str × V)) (g : {α : Type} → List α → List α → List α → List α) (hk : kws ≠ []) (hms : ∀ q ∈ ms, q ∈ kws)
    (hrel : ∀ {vs mz zs : List V} {us mv ws : List Value}, Vals vs us → Vals mz mv → Vals zs ws → Vals (g vs mz zs) (g us mv ws))
    (h : ∀ (D : Addr) (doc pm : Value) (an : Option Addr) (cdv ct : Value) (us mv ws : List Value), us.length = n → mv.length = ms.length → ws.length = ks.length →
      KwChain D ((ms.map (·.1)).zip mv) (bindArgs (PySem.W.fnOf m qual (defArgs st) (defBody st) (defScope st) .none (.ref D) doc pm an cdv ct) ⟨us, ks.zip ws⟩) (ps.zip (g us mv ws))) : CalMK P w K mg base C m k n ks (fun vs zs => g vs (ms.map (·.2)) zs) sp := by
  obtain ⟨mv, hb⟩ := d.F.kbinds0 (ps := ps) n ks ms g hk hms hrel h
  exact ⟨d.f, d.fd, ps, _, F, d.mt, hb⟩
theorem CalM.kw {sp : Sp} (Cc : CalM P w K mg base C m k ps [] sp) (d : DefM K C m qual st ps) (n : Nat) (ks : List Str) (g : {α : Type} → List α → List α → List α) (hrel : ∀ {vs zs : List V} {us ws : List Value}, Vals vs us → Vals zs ws → Vals (g vs zs) (g us ws))
    (hb : ∀ (kV doc pm : Value) (an : Option Addr) (cdv ct : Value) (us ws : List Value), us.length = n → ws.length = ks.length → bindArgs (PySem.W.fnOf m qual (defArgs st) (defBody st) (defScope st) .none kV doc pm an cdv ct) ⟨us, ks.zip ws⟩ = pure (ps.zip (g us ws)))
    (F : FnG P w K mg base k d.f d.fd ps sp) : CalMK P w K mg base C m k n ks g sp := by
  obtain ⟨oc2, od2, kV, doc, pm, an, cd, ct, osl2, e, lk2, _⟩ := d.F.ex
  refine ⟨d.f, d.fd, ps, g, F, d.mt, ⟨fun s us ws X l1 l2 => ?_, fun r1 r2 => hrel r1 r2⟩⟩
  rw [e]
  exact .of_eq (hb kV doc pm an cd ct us ws l1 l2)
end
section
variable {X : Cx} {j : Nat} {W : WX} {e a b c o : Expr} {es rest : List Expr} {kws : List Keyword} {σ : St} {H H1 : Hp} {Q : VK} {pos p apos : Pos} {t ta tb to : RX} {tr tk : RA} {n f m : Str} {C : Addr} {sp : Sp} {k : Nat} {ps : List Str} {dvs : List V}
/-- o.f -/
def rFld (C : Addr) (f : Str) (to : RX) : RX := fun σ H Q W => to σ H (fun x H1 => ∃ a dx fs v, x = .ref a ∧ H1 a = some (.ins C dx fs) ∧ fs.lookup f = some v ∧ Q v H1) W
theorem s_fld (cl : Cls X.K C) (na : NoAttr X.K C f) (h : SX X j to o) (hb : attributeBase o f X.env (eval o X.env) = eval o X.env := by rfl) : SX X j (rFld C f to) (.Attribute o f pos) := ⟨fun cn _ _ _ q =>
  .of (pe_fld pe_W hb) fun H1 x => (h.run cn q).t x fun v H2 ⟨H3, x3, a, dx, fs, w, e, ha, hl, q⟩ => ⟨a, C, dx, fs, w, e, x3 _ _ ha, cl, na, hl, H3, x3, q⟩⟩
/-- o.f = e -/
def zFld (C : Addr) (f : Str) (to te : RX) : RS := fun D W σ H => te σ H (fun y H1 => to σ H1 (fun x H2 => ∃ a dx fs, x = .ref a ∧ H2 a = some (.ins C dx fs) ∧ fs.length < 1000 ∧ D.nx σ (upd H2 a (.ins C dx (putF f y fs)))) W) W
theorem z_fld {pos' : Pos} (cl : Cls X.K C) (na : NoAttr X.K C f) (h : SX X j to o) (he : SX X j t e) (hs : swapsWith e (some (.Attribute o f pos')) pos.line X.env = pure false := by rfl) : SS X j (zFld C f to t) (.Assign [.Attribute o f pos'] e pos) := ⟨fun cn _ _ _ _ q =>
  .of (ps_fld pe_W pe_W hs) fun H1 x => (he.run cn q).t x fun y H2 ⟨H3, x3, q⟩ => (h.run cn q).t x3 fun v H4 ⟨H5, x5, a, dx, fs, e, ha, hl, q⟩ => ⟨a, C, dx, fs, e, x5 _ _ ha, cl, na, hl, _, x5.set a _, q⟩⟩
/-- the method found, its frame -/
def rMeth (C : Addr) (m : Str) (sp : Sp) (dvs : List V) (to : RX) (t : RA) : RX := fun σ H Q W => to σ H (fun x H1 => ∃ a dx fs, x = .ref a ∧ H1 a = some (.ins C dx fs) ∧ fs.lookup m = none ∧ t σ H1 (fun vs H2 => sp (x :: (vs ++ dvs)) H2 Q fun c d H' => W c d σ H') W) W
theorem s_meth {pl : Sem Bool} (cl : Cls X.K C) (Cm : CalM X.prog X.w X.K X.mg X.base C m k ps dvs sp) (h : SX X j to o) (ha : SA X j tr (e :: es)) (hkj : k ≤ j := by decide)
    (hst : starEach (e :: es) X.env = (false, eval e X.env) :: starEach es X.env := by rfl) (hpl : (backTo pos (starEach es X.env)).any (·.1) = false := by rfl)
    (ht : eval (.Call (.Attribute o m apos) (e :: es) [] pos) X.env = (do
      let ov ← eval o X.env
      standAt apos.atName
      let (f, first) ← holding [ov] (getMethod ov m pl)
      callWith pos f first (backTo pos (starEach (e :: es) X.env)) (backToKw pos (keywordEach [] X.env))) := by rfl) : SX X j (rMeth C m sp dvs to tr) (.Call (.Attribute o m apos) (e :: es) [] pos) := by
  obtain ⟨f, fd, ds, F, hm, hb, hd⟩ := Cm.ex
  refine ⟨fun cn σ H Q q H1 x pins s I => ?_⟩
  refine PySem.W.methodCall_KW (pl := pl) (thn (h.run cn q H1 x pins s I) fun u s1 ⟨y, H2, I2, ry, H3, x3, a, dx, fs, ex, ea, l, q⟩ => ?_) ht
  subst ex
  obtain rfl : u = Value.ref a := ry
  refine getmeth_ok I2 (x3 _ _ ea) cl hm l ?_
  refine PySem.W.callWith_K (first := [.ref a]) (h₀ := X.base) I2.ok.mod.kin hm.kp (thn (ha.run cn q H2 x3 pos pins s1 I2) fun us s2 ⟨vs, H4, I4, r, H5, x5, q2⟩ => ⟨I4.kIn, ?_⟩) hst hpl
  exact run_fngU (us := .ref a :: us) (vs := .ref a :: vs) F (cn.mono hkj) hb hd I4 x5 (.cons rfl r) q2
theorem s_meth0 {pl : Sem Bool} (cl : Cls X.K C) (Cm : CalM X.prog X.w X.K X.mg X.base C m k ps dvs sp) (h : SX X j to o) (hkj : k ≤ j := by decide)
    (ht : eval (.Call (.Attribute o m apos) [] [] pos) X.env = (do
      let ov ← eval o X.env
      standAt apos.atName
      let (f, first) ← holding [ov] (getMethod ov m pl)
      callWith pos f first (backTo pos (starEach [] X.env)) (backToKw pos (keywordEach [] X.env))) := by rfl) : SX X j (rMeth C m sp dvs to aNil) (.Call (.Attribute o m apos) [] [] pos) := by
  obtain ⟨f, fd, ds, F, hm, hb, hd⟩ := Cm.ex
  refine ⟨fun cn σ H Q q H1 x pins s I => ?_⟩
  refine PySem.W.methodCall_KW (pl := pl) (thn (h.run cn q H1 x pins s I) fun u s1 ⟨y, H2, I2, ry, H3, x3, a, dx, fs, ex, ea, l, q⟩ => ?_) ht
  subst ex
  obtain rfl : u = Value.ref a := ry
  refine getmeth_ok I2 (x3 _ _ ea) cl hm l ?_
  exact PySem.W.callWith_K0 (first := [.ref a]) I2.kIn hm.kp (run_fngU (us := [.ref a]) (vs := [.ref a]) F (cn.mono hkj) hb hd I2 x3 (.cons rfl .nil) q)
/-- C(..) -/
def rMake (C : Addr) (sp : Sp) (dvs : List V) (t : RA) : RX := fun σ H Q W => t σ H (fun vs H1 => ∀ x dx, H1 x = none → H1 dx = none → dx ≠ x →
  sp (.ref x :: (vs ++ dvs)) (upd (upd H1 dx (.own x)) x (.ins C dx [])) (fun v H2 => v = .non ∧ Q (.ref x) H2) fun c d H' => W c d σ H') W
theorem Around.gd_make {A : Around} (h : A.guards = some []) (C : Addr) (us : List Value) (kw : List (Str × Value)) : (A.under (.builtin "type.__call__" ⟨.ref C :: us, kw⟩)).guards = some [] := by
  simp only [Around.under, h]
  rfl
theorem run_makeU {ds us : List Value} {f : Addr} {fd : FuncData} {vs : List V} {pins : List (Addr × Obj)} {s : Shared} (hmk : PySem.W.makesIn X.K C = true) (hm : Meth X.K C "__init__" f) (F : FnG X.prog X.w X.K X.mg X.base k f fd ps sp) (c : Cn X (upW W) (k + 1)) (hb : Binds X.K fd ps ds) (hd : Vals dvs ds)
    (I : Inv X pins σ H1 s) (x : Ex H H1) (r : Vals vs us)
    (h : ∀ x dx, H x = none → H dx = none → dx ≠ x → sp (.ref x :: (vs ++ dvs)) (upd (upd H dx (.own x)) x (.ins C dx [])) (fun v H2 => v = .non ∧ Q (.ref x) H2) fun c d H' => W c d σ H') :
    wpAny (model X.prog X.w) X.A (call (.ref C) us) (EP X pins σ (up Q)) X.xe s := by
  have f1 := I.hok.fresh (Nat.le_succ s.heap.objs.size)
  have f2 := I.hok.fresh (Nat.le_refl s.heap.objs.size)
  have hq := h (s.heap.objs.size + 1) s.heap.objs.size (x.free f1) (x.free f2) (Nat.ne_of_lt (Nat.lt_succ_self _))
  have I2 := Inv.made (C := C) I
  have x2 : Ex (upd (upd H s.heap.objs.size (.own (s.heap.objs.size + 1))) (s.heap.objs.size + 1) (.ins C s.heap.objs.size [])) (upd (upd H1 s.heap.objs.size (.own (s.heap.objs.size + 1))) (s.heap.objs.size + 1) (.ins C s.heap.objs.size [])) := (x.set _ _).set _ _
  have r2 : Vals (V.ref (s.heap.objs.size + 1) :: (vs ++ dvs)) (Value.ref (s.heap.objs.size + 1) :: (us ++ ds)) := .cons rfl (r.append hd)
  have hl : (Value.ref (s.heap.objs.size + 1) :: us ++ ds).length = ps.length := by
    have e := r2.length
    rw [F.len _ _ _ _ hq] at e
    exact e.symm
  refine wpAny_call (make_map (f := f) I.kIn hmk hm.at_ (beq_iff_eq.mp hm.fn) (codeAny_mono (F.run _ X.stack _ _ ⟨Value.ref (s.heap.objs.size + 1) :: us, []⟩ (Value.ref (s.heap.objs.size + 1) :: (us ++ ds)) _ _ _ _ (c.room.make C us []) (Around.gd_make c.gd C us [])
    (I2.env0.make C us []) (hb _ (Value.ref (s.heap.objs.size + 1) :: us) I2.kIn hl) r2 x2 hq) fun r s' hq' => ?_))
  rcases r with e | fl
  · exact c.tk e s' (XE.of_call I2 (fun cl d H' ⟨H2, x2, q2⟩ => ⟨H2, x2, q2⟩) hq')
  · cases fl with
    | ret u =>
      obtain ⟨v, H', I3, rv, H4, x4, ev, q3⟩ := I2.after hq'
      subst ev
      exact ⟨rv, ⟨V.ref (s.heap.objs.size + 1), H', I3, rfl, H4, x4, q3⟩⟩
    | next => exact False.elim hq'
    | brk => exact False.elim hq'
    | cont => exact False.elim hq'
theorem s_make (M : MkC X.K X.mg n C) (Cm : CalM X.prog X.w X.K X.mg X.base C "__init__" k ps dvs sp) (h : SA X j tr (e :: es)) (hkj : k + 1 ≤ j := by decide) (hg : Gl X n := by rfl) (hdb : (n == ("__debug__" : Str)) = false := by decide)
    (he : starEach (e :: es) X.env = (false, eval e X.env) :: starEach es X.env := by rfl) (hpl : (backTo pos (starEach es X.env)).any (·.1) = false := by rfl) : SX X j (rMake C sp dvs tr) (.Call (.Name n p) (e :: es) [] pos) := by
  obtain ⟨f, fd, ds, F, hm, hb, hd⟩ := Cm.ex
  refine ⟨fun c σ H Q q H1 x pins s I => ?_⟩
  refine wpAny_Call_Name_kw (ld_glob I hg M.g (PySem.W.callWith_K (h₀ := X.base) I.ok.mod.kin M.kp (thn (h.run c q H1 x pos pins s I) fun us s1 ⟨vs, H2, I2, r, H3, x3, q⟩ => ⟨I2.kIn, ?_⟩) he hpl) hdb)
  exact run_makeU M.makes hm F (c.mono hkj) hb hd I2 x3 r q
theorem s_make0 (M : MkC X.K X.mg n C) (Cm : CalM X.prog X.w X.K X.mg X.base C "__init__" k ps dvs sp) (hkj : k + 1 ≤ j := by decide) (hg : Gl X n := by rfl) (hdb : (n == ("__debug__" : Str)) = false := by decide) : SX X j (rMake C sp dvs aNil) (.Call (.Name n p) [] [] pos) := by
  obtain ⟨f, fd, ds, F, hm, hb, hd⟩ := Cm.ex
  refine ⟨fun c σ H Q q H1 x pins s I => ?_⟩
  exact wpAny_Call_Name_kw (ld_glob I hg M.g (PySem.W.callWith_K0 I.kIn M.kp (run_makeU (us := []) (vs := []) M.makes hm F (c.mono hkj) hb hd I x .nil q)) hdb)
end
/-! ## ranges of great ints, given to list -/
section
namespace LR
open Sem (wp)
open AutoSeq1 (wpAny_loadPart')
open PySem.F
theorem slot_next : Slot "longrange_iterator" "__next__" "longrange_iterator.__next__" :=
  .of (owner := "longrange_iterator") (n := "__next__") (by rw [typeLookup_type, builtinLookup_eq_fast]; kernel_rfl) (by decide +kernel) (by decide +kernel) (by decide +kernel)
    (by first | exact .inl (by decide +kernel) | exact .inr (by decide +kernel)) (by rw [isSubtype_type]; kernel_rfl)
theorem entry_next : entryFor table "longrange_iterator.__next__" = some Builtin.«longrange_iterator.__next__» := entryFor_of_tree (by kernel_rfl)
theorem args_next (a : Value) : argsOk "longrange_iterator.__next__" ⟨[a], []⟩ := by
  unfold argsOk; kernel_rfl
theorem slot_iter : Slot "longrange_iterator" "__iter__" "longrange_iterator.__iter__" :=
  .of (owner := "longrange_iterator") (n := "__iter__") (by rw [typeLookup_type, builtinLookup_eq_fast]; kernel_rfl) (by decide +kernel) (by decide +kernel) (by decide +kernel)
    (by first | exact .inl (by decide +kernel) | exact .inr (by decide +kernel)) (by rw [isSubtype_type]; kernel_rfl)
abbrev IsLong (h : Heap) (it : Addr) (x left step : Int) : Prop := h.get? it = some { cls := .type "longrange_iterator", dict := none, data := .fields #[rawInt x, rawInt left, rawInt step], slots := #[] }
theorem meets_next (it : Addr) (x left step : Int) (hc0 : ¬left ≤ 0) :
    Meets (Builtin.«longrange_iterator.__next__» ⟨[.ref it], []⟩) (fun _ R s => s.heap.get? it = some { cls := .type "longrange_iterator", dict := none, data := .fields #[rawInt x, rawInt left, rawInt step], slots := #[] } ∧
      R (.ok (.ret (Value.int x s.toks))) { s with heap := (s.heap.update it (Obj.mapFields fun y => y.setIfInBounds 0 (rawInt (x + step)))).update it (Obj.mapFields fun y => y.setIfInBounds 1 (rawInt (left - 1))), toks := s.toks + 1 }) :=
  .of_wp fun prog w A R s h => by obtain ⟨hp, g, d, tk, os⟩ := s; obtain ⟨hl, h⟩ := h; wp_walk; exact ⟨_, rfl, h⟩
section
variable {prog : Program} {w : World} {A : Around} {E : Value → Shared → Prop} {s : Shared}
theorem entry_iter : entryFor table "longrange_iterator.__iter__" = some Builtin.«dict_keyiterator.__iter__» :=
  entryFor_alias (id' := "dict_keyiterator.__iter__") (by kernel_rfl) (by first | rfl | decide +kernel | (unfold String.splitOn; simp +decide [String.splitOnAux])) (by decide +kernel) (by kernel_rfl)
theorem args_iter (a : Value) : argsOk "longrange_iterator.__iter__" ⟨[a], []⟩ := by
  unfold argsOk; kernel_rfl
theorem pyIter_long {it : Addr} {x left step : Int} {Q : Value → Shared → Prop} (hit : IsLong s.heap it x left step) (h : Q (.ref it) s) : wpAny (model prog w) A (pyIter (.ref it)) Q E s := by
  have hT : s.TypeIs (.ref it) "longrange_iterator" := ⟨_, hit, rfl⟩
  refine wpAny_pyIter_slot hT slot_iter (wpAny_call_entry slot_iter hT entry_iter ?_ (args_iter _))
  show wpAny _ _ (ret (.ref it)) _ _ s
  exact wpAny_pure ⟨_, rfl, "longrange_iterator", _, hT, slot_next.lookup, h⟩
theorem pyNext_item {it : Addr} {x left step : Int} {Q : Option Value → Shared → Prop} (hit : IsLong s.heap it x left step) (hleft : 0 < left)
    (hQ : ∀ h', IsLong h' it (x + step) (left - 1) step → Heap.SameBut it s.heap h' → Q (some (.int x s.toks)) { s with heap := h', toks := s.toks + 1 }) :
    wpAny (model prog w) A (pyNext (.ref it)) Q E s := by
  have hT : s.TypeIs (.ref it) "longrange_iterator" := ⟨_, hit, rfl⟩
  unfold pyNext
  refine wpAny_bind (wpAny_attempt (wpAny_callSpecial?_slot (name := Str.ofString "__next__") hT slot_next
    (call_meets slot_next hT entry_next (args_next _) (meets_next it x left step (by omega)) ⟨hit, ?_⟩)))
  exact wpAny_pure (hQ _ (Heap.get?_update_self _ (Heap.get?_update_self _ hit rfl) rfl) ((Heap.SameBut.update ..).trans (Heap.SameBut.update ..)))
theorem pyNext_end {it : Addr} {x left step : Int} {Q : Option Value → Shared → Prop} (hh : A.handled = none) (hit : IsLong s.heap it x left step) (hleft : left ≤ 0)
    (hQ : ∀ h', Heap.ExtBut it s.heap h' → Q none { s with heap := h' }) : wpAny (model prog w) A (pyNext (.ref it)) Q E s := by
  have hT : s.TypeIs (.ref it) "longrange_iterator" := ⟨_, hit, rfl⟩
  unfold pyNext
  refine wpAny_bind (wpAny_attempt (wpAny_callSpecial?_slot (name := Str.ofString "__next__") hT slot_next
    (wpAny_call_entry slot_next hT entry_next ?_ (args_next _))))
  unfold Builtin.«longrange_iterator.__next__»
  refine wpAny_bind (wpAny_of_eq (a := #[some (.ref it)]) (by kernel_rfl) ?_)
  show wpAny _ _ (Builtin.Iterators_pickling.intField _ (.ref it) 0 >>= _) _ _ s
  refine wpAny_bind ?_
  unfold Builtin.Iterators_pickling.intField
  refine wpAny_bind (wpAny_field hit rfl (x := rawInt x) rfl (wpAny_pure ?_))
  refine wpAny_bind (wpAny_bind (wpAny_field hit rfl (x := rawInt left) rfl (wpAny_pure ?_)))
  refine wpAny_bind (wpAny_bind (wpAny_field hit rfl (x := rawInt step) rfl (wpAny_pure ?_)))
  show wpAny _ _ (if left ≤ 0 then _ else _) _ _ s
  rw [if_pos hleft]
  refine wpAny_bind (wpAny_rule ?_)
  refine wpAny_bind ?_
  show wpAny _ _ (newExc (.type "StopIteration") [] >>= _) _ _ _
  refine wpAny_bind ?_
  simp only [newExc, newTuple]
  refine wpAny_bind (wpAny_newObj_type ?_ (by size_fits))
  refine wpAny_bind (m := firstArgMember _ _) (wpAny_of_eq (a := Value.none) (by first | rfl | (simp only [firstArgMember]; rfl)) ?_)
  refine wpAny_newObj_type ?_ (by size_fits)
  simp only [raiseNew]
  refine wpAny_pure (wpAny_bind (wpAny_bind (wpAny_handled ?_)))
  first | rw [show A.in1.handled = none from hh] | rw [hh]
  refine wpAny_throw ?_
  refine wpAny_bind (wpAny_isInstance (T := "StopIteration") (b := true) ⟨_, Heap.get?_push_size _ rfl, rfl⟩ isSubtype_stop ?_)
  exact wpAny_pure (hQ _ (((Heap.ExtBut.refl it s.heap).push _).push _))
theorem walks (hh : A.handled = none) (I : Addr) (a c : Int) (n : Nat) :
    Walks prog w A I [I] [I] n (fun i v => ∃ t, v = .int (a + i * c) t) (fun i h => IsLong h I (a + (i : Nat) * c) ((n : Int) - (i : Nat)) c) where
  sub := fun _ hb => hb
  frame := fun _ _ _ st hk => hk I (by simp) _ st
  item := fun i s Q E hi st hQ => by
    refine pyNext_item st (by omega) fun h' hit' hs' => ?_
    refine hQ _ h' _ ⟨_, rfl⟩ ?_ fun b o hb e => hs'.extBut b o (fun h => hb (by simp [h])) e
    have e1 : a + ((i + 1 : Nat) : Int) * c = a + (i : Int) * c + c := by push_cast; rw [Int.add_mul, Int.one_mul, Int.add_assoc]
    have e2 : (n : Int) - ((i + 1 : Nat) : Int) = (n : Int) - (i : Int) - 1 := by push_cast; omega
    rw [e1, e2]; exact hit'
  done := fun s Q E st hQ => pyNext_end hh st (by omega) fun h' he' => hQ h' s.toks fun b o hb e => he' b o (fun h => hb (by simp [h])) e
  self := fun _ _ _ _ st hQ => pyIter_long st hQ
theorem pyIter_range {r : Addr} {a b c : Int} {t u v : Tok} {Q : Value → Shared → Prop} (hr : IsRange s.heap r a b c t u v) (hbig : Builtin.Range.small a b c = false)
    (hQ : Q (.ref s.heap.objs.size) { s with heap := s.heap.push { cls := .type "longrange_iterator", data := .fields #[rawInt a, rawInt (Builtin.Range.rangeSize a b c), rawInt c] } }) :
    wpAny (model prog w) A (pyIter (.ref r)) Q E s := by
  have hT : s.TypeIs (.ref r) "range" := ⟨_, hr, rfl⟩
  refine wpAny_pyIter_slot hT F.slot_range_iter (call_meets F.slot_range_iter hT F.entry_range_iter (F.args_range_iter_1 _)
    (AutoRange.range___iter___range_0 r a b c t u v (by unfold Builtin.Range.small at hbig; simp only [hbig]; rfl)) ⟨hr, ?_⟩)
  unfold Builtin.Range.small at hbig
  simp only [hbig]
  exact ⟨"longrange_iterator", _, ⟨_, Heap.get?_push_size _ rfl, rfl⟩, slot_next.lookup, hQ⟩
theorem extend_range {R : Result → Shared → Prop} {r : Addr} {a b c : Int} {t u v : Tok} {n : Nat} (hh : A.handled = none) (hr : IsRange s.heap r a b c t u v) (hbig : Builtin.Range.small a b c = false)
    (hn : Builtin.Range.rangeSize a b c = n) (hlen : n ≤ 2 ^ 24) (S : Addr) (res : Value) (c₀ : Nat) (hS : s.heap.get? S = some { cls := .type "list", data := .seq #[] c₀ })
    (hR : ∀ h' tk acc' c', (∀ b o, b ≠ S → s.heap.get? b = some o → h'.get? b = some o) → h'.get? S = some { cls := .type "list", dict := none, data := .seq acc' c', slots := #[] } →
      ItemsOf (fun i v => ∃ t, v = .int (a + i * c) t) acc' n → R (.ok (.ret res)) { s with heap := h', toks := tk }) :
    wpAny (model prog w) A.in1 (Builtin.List.listExtendWith (.ref S) (.ref r) res)
      (fun fin s' => match fin with | .done f => R (.ok f) s' | .again c' => c'.quiet = true ∧ codeAny (model prog w) A c' R s') (fun e s' => R (.error e) s') s := by
  have hSr : S ≠ r := fun e => by rw [e, hr] at hS; simp at hS
  have hSlt : S < s.heap.objs.size := Heap.lt_size hS
  have hSI : S ≠ s.heap.objs.size := Nat.ne_of_lt hSlt
  have hSf : S ∉ [s.heap.objs.size] := fun hm => hSI (List.mem_singleton.mp hm)
  have W := (walks (prog := prog) (w := w) (A := A.in1) hh s.heap.objs.size a c n).toS
  have key : ∀ (h : Heap) (c₁ tk : Nat), IsLong h s.heap.objs.size (a + ((0 : Nat) : Int) * c) ((n : Int) - ((0 : Nat) : Int)) c → (∀ b o, b ≠ S → s.heap.get? b = some o → h.get? b = some o) →
      h.get? S = some { cls := .type "list", data := .seq #[] c₁ } → codeAny (model prog w) A (.builtin "list.extend.loop" ⟨[.ref S, .ref s.heap.objs.size, res], []⟩) R { s with heap := h, toks := tk } := by
    intro h c₁ tk hit hk hS₁
    refine codeAny_extend_loopS W (by rw [sizeLine_eq]; omega) S hSf res n 0 _ #[] c₁ rfl (Nat.zero_le _) hit hS₁ (ItemsOf.nil _) fun s' acc' c' hm hS' hacc => ?_
    rw [Moved.eq_with hm]
    refine hR s'.heap s'.toks acc' c' (fun b o hb e => hm.heap b o (fun hmem => ?_) (hk b o hb e)) hS' hacc
    rcases List.mem_cons.mp hmem with e' | hmem
    · exact hb e'
    · exact absurd (Heap.lt_size e) (by rw [List.mem_singleton.mp hmem]; exact Nat.lt_irrefl _)
  unfold Builtin.List.listExtendWith
  refine wpAny_bind (wpAny_typeOf (T := "range") ⟨_, hr, rfl⟩ ?_)
  have h1 : Builtin.List.listSameRef (.ref S) (.ref r) = false := by simp [Builtin.List.listSameRef, hSr]
  have h2 : (Value.type "range" == Value.type "list") = false := by decide
  have h3 : (Value.type "range" == Value.type "tuple") = false := by decide
  simp only [h1, h2, h3, Bool.or_false, Bool.false_eq_true, if_false]
  refine wpAny_bind (pyIter_range hr hbig ?_)
  refine wpAny_bind (wpAny_holding (wpAny_hint_range (n := n) (Heap.get?_push_of_some _ hr) hn hlen ?_))
  have hit₁ : IsLong (s.heap.push { cls := .type "longrange_iterator", data := .fields #[rawInt a, rawInt (Builtin.Range.rangeSize a b c), rawInt c] }) s.heap.objs.size (a + ((0 : Nat) : Int) * c) ((n : Int) - ((0 : Nat) : Int)) c := by
    show IsLong _ _ _ _ _; rw [hn]; simpa using Heap.get?_push_size _ rfl
  have hS₁ := Heap.get?_push_of_some { cls := .type "longrange_iterator", data := .fields #[rawInt a, rawInt (Builtin.Range.rangeSize a b c), rawInt c] } hS
  refine wpAny_ite_split (fun _ => ?_) (fun _ => wpAny_pure ⟨plainId_quiet F.plain_extend_loop _, key _ c₀ _ hit₁ (fun b o _ e => Heap.get?_push_of_some _ e) hS₁⟩)
  refine wpAny_bind (wpAny_rule ?_)
  refine wpAny_bind ?_
  show wpAny _ _ (updateSeq S (·.push .none) >>= fun _ => updateSeq S (·.pop)) _ _ _
  refine wpAny_bind (wpAny_updateSeq hS₁ rfl ?_)
  have hS₂ := Heap.get?_update_self (Obj.mapSeq (·.push Value.none)) hS₁ rfl
  refine wpAny_updateSeq (hz := by seq_fits) hS₂ rfl ?_
  have hS₃ := Heap.get?_update_self (Obj.mapSeq (·.pop)) hS₂ rfl
  refine wpAny_pure ⟨plainId_quiet F.plain_extend_loop _, key _ _ _ ?_ (fun b o hb e => ?_) hS₃⟩
  · exact (Heap.get?_update_other _ _ hSI).trans ((Heap.get?_update_other _ _ hSI).trans hit₁)
  · exact (Heap.get?_update_other _ _ (Ne.symm hb)).trans ((Heap.get?_update_other _ _ (Ne.symm hb)).trans (Heap.get?_push_of_some _ e))
theorem list_init {R : Result → Shared → Prop} {r : Addr} {a b c : Int} {t u v : Tok} {n : Nat} (hh : A.handled = none) (hr : IsRange s.heap r a b c t u v) (hbig : Builtin.Range.small a b c = false)
    (hn : Builtin.Range.rangeSize a b c = n) (hlen : n ≤ 2 ^ 24) (S : Addr) (hS : s.heap.get? S = some { cls := .type "list", data := .seq #[] })
    (hR : ∀ h' tk acc' c', (∀ b o, b ≠ S → s.heap.get? b = some o → h'.get? b = some o) → h'.get? S = some { cls := .type "list", dict := none, data := .seq acc' c', slots := #[] } →
      ItemsOf (fun i v => ∃ t, v = .int (a + i * c) t) acc' n → R (.ok (.ret .none)) { s with heap := h', toks := tk }) :
    wpAny (model prog w) A.in1 (Builtin.«list.__init__» ⟨[.ref S, .ref r], []⟩)
      (fun fin s' => match fin with | .done f => R (.ok f) s' | .again c' => c'.quiet = true ∧ codeAny (model prog w) A c' R s') (fun e s' => R (.error e) s') s := by
  have hSr : S ≠ r := fun e => by rw [e, hr] at hS; simp at hS
  show wpAny _ _ (do let old ← Builtin.List.listItems (.ref S); Builtin.List.listUpdate (.ref S) (fun _ => #[]); letGo old.toList.reverse; Builtin.List.listExtendWith (.ref S) (.ref r) .none) _ _ s
  refine wpAny_bind ?_
  unfold Builtin.List.listItems
  refine wpAny_bind (wpAny_seqItems hS rfl (wpAny_pure ?_))
  show wpAny _ _ (updateSeq S (fun _ => #[]) >>= fun _ => letGo (#[] : Array Value).toList.reverse >>= fun _ => Builtin.List.listExtendWith (.ref S) (.ref r) .none) _ _ s
  refine wpAny_bind (wpAny_updateSeq hS rfl ?_)
  have hS₂ := Heap.get?_update_self (Obj.mapSeq (fun _ => (#[] : Array Value))) hS rfl
  have oth : ∀ b o, b ≠ S → s.heap.get? b = some o → (s.heap.update S (Obj.mapSeq (fun _ => (#[] : Array Value)))).get? b = some o :=
    fun b o hb e => (Heap.get?_update_other _ _ (Ne.symm hb)).trans e
  refine wpAny_bind (wpAny_letGo ?_)
  refine extend_range hh (oth r _ (Ne.symm hSr) hr) hbig hn hlen S .none _ hS₂ fun h' tk acc' c' hk hS' hacc => ?_
  exact hR h' tk acc' c' (fun b o hb e => hk b o hb (oth b o hb e)) hS' hacc
theorem call_list {Q : Value → Shared → Prop} {r : Addr} {a b c : Int} {t u v : Tok} {n : Nat} (hh : A.handled = none) (hr : IsRange s.heap r a b c t u v)
    (hn : Builtin.Range.rangeSize a b c = n) (hlen : n ≤ 2 ^ 24)
    (hQ : ∀ h' tk acc' c', (∀ b o, s.heap.get? b = some o → h'.get? b = some o) →
      h'.get? s.heap.objs.size = some { cls := .type "list", dict := none, data := .seq acc' c', slots := #[] } → ItemsOf (fun i v => ∃ t, v = .int (a + i * c) t) acc' n → Q (.ref s.heap.objs.size) { s with heap := h', toks := tk }) :
    wpAny (model prog w) A (call (.type "list") [.ref r]) Q E s := by
  cases hs : Builtin.Range.small a b c with
  | true => exact call_list_range hh hr hs hn hlen hQ
  | false =>
    refine callType_codes (Q₁ := fun obj s₁ => obj = .ref s.heap.objs.size ∧ s₁ = { s with heap := s.heap.push { cls := .type "list", data := .seq #[] } }) F.called_list (F.typeCall_list_1 _) F.entry_list_init
      (code_list_new _ ⟨rfl, rfl⟩) fun obj s₁ h₁ => ?_
    obtain ⟨rfl, rfl⟩ := h₁
    have hS : (s.heap.push { cls := .type "list", data := .seq #[] }).get? s.heap.objs.size = some { cls := .type "list", data := .seq #[] } := Heap.get?_push_size _ rfl
    refine ⟨⟨_, hS, rfl⟩, F.args_list_init_2 _ _, list_init (A := A.in1) hh (Heap.get?_push_of_some _ hr) hs hn hlen _ hS fun h' tk acc' c' hk hS' hacc => ?_⟩
    exact ⟨rfl, hQ h' tk acc' c' (fun b o e => hk b o (Nat.ne_of_lt (Heap.lt_size e)) (Heap.get?_push_of_some _ e)) hS' hacc⟩
end
end LR
end
section
variable {X : Cx} {j : Nat} {a b : Expr} {ta tb : RX} {p pos p2 pos2 : Pos}
/-- list(range(a, b)), ints of any size -/
def rLstRg (ta tb : RX) : RX := fun σ H Q W => ta σ H (fun x H1 => tb σ H1 (fun y H2 => ∃ i k, x = .int i ∧ y = .int k ∧ k - i ≤ 100000 ∧ ∀ q, H2 q = none → Q (.ref q) (upd H2 q (.lst (rgV i k)))) W) W
theorem rg_prg (hg : Gl X "range") (hm : X.mg "range" = none) (na : starEach [a, b] X.env = (false, eval a X.env) :: starEach [b] X.env) (nb : starEach [b] X.env = (false, eval b X.env) :: starEach [] X.env) (hp : (backTo pos (starEach [b] X.env)).any (·.1) = false) :
    PRg X (.Call (.Name "range" p) [a, b] [] pos) (tRg2 (tWE X a) (tWE X b)) := prg_2 hg hm pe_W pe_W na nb hp
theorem s_lstRg (hm : X.mg "list" = none) (hr : X.mg "range" = none) (ha : SX X j ta a) (hb : SX X j tb b) (hc : X.calm = true := by rfl) (hg : Gl X "list" := by rfl) (hg2 : Gl X "range" := by rfl)
    (na : starEach [a, b] X.env = (false, eval a X.env) :: starEach [b] X.env := by rfl) (nb : starEach [b] X.env = (false, eval b X.env) :: starEach [] X.env := by rfl) (hp : (backTo pos (starEach [b] X.env)).any (·.1) = false := by rfl)
    (nc : starEach [.Call (.Name "range" p) [a, b] [] pos] X.env = (false, eval (.Call (.Name "range" p) [a, b] [] pos) X.env) :: starEach [] X.env := by rfl) :
    SX X j (rLstRg ta tb) (.Call (.Name "list" p2) [.Call (.Name "range" p) [a, b] [] pos] [] pos2) := ⟨fun cn σ H Q q H1 x pins s I => by
  have he := rg_prg (X := X) (p := p) (pos := pos) hg2 hr na nb hp
  refine Call_ (ld_blt I hg hm boot_list (PyProof.Rows.callWith_type1 (args_cons (thn (he pins s σ H1 (fun i k H2 => k - i ≤ 100000 ∧ ∀ q, H2 q = none → up Q (.ref q) (upd H2 q (.lst (rgV i k)))) I ?_) fun x s1 ⟨r, i, k, t, u, v, H2, ex, hr, I1, ok, q⟩ => args_nil ?_) nc) nc))
  · refine (ha.run cn q).t x fun y H3 ⟨H4, x4, q⟩ => (hb.run cn q).t x4 fun z H5 ⟨H6, x6, i, k, e1, e2, hz, q⟩ => ⟨i, k, e1, e2, hz, fun q0 hq => ⟨_, x6.set q0 _, q q0 (x6.free hq)⟩⟩
  · subst ex
    refine LR.call_list (n := (k - i).toNat) (I1.ok.hd hc) hr (rangeSize_nat i k) (by omega) fun h' tk acc c' hk e' hi => ?_
    refine ⟨.ref s1.heap.objs.size, upd H2 s1.heap.objs.size (.lst (rgV i k)), I1.laid hk (Nat.le_refl _) (show ObjOk X.prog X.w _ _ _ (.lst (rgV i k)) from ⟨?_, acc.toList, c', vals_rg hi, ?_⟩), rfl, q _ (I1.hok.fresh (Nat.le_refl _))⟩
    · rw [rgV_length, sizeLine_eq]; omega
    · rw [Array.toArray_toList]; exact e'⟩
end
section
variable {X : Cx} {j : Nat} {W : WX} {e a b c o : Expr} {es rest : List Expr} {σ : St} {H H1 : Hp} {Q : VK} {pos p apos cpos p2 : Pos} {t ta tb to : RX} {tr : RA} {n name : Str} {C : Addr} {k : Nat}
/-! ## slices -/
abbrev RP := St → Hp → (Option Int → Hp → Prop) → WX → Prop
structure SP (X : Cx) (j : Nat) (t : RP) (oe : Option Expr) : Prop where
  ex : ∃ to, PO X oe to ∧ ∀ {W}, Cn X (upW W) j → ∀ {σ H Q}, t σ H Q W → ∀ H1, Ex H H1 → ∀ F : Option Int → Hp → Prop, (∀ i H2 H', Ex H' H2 → Q i H' → F i H2) → to σ H1 F
def pNo : RP := fun _ H Q _ => Q none H
def pAt (t : RX) : RP := fun σ H Q W => t σ H (fun x H1 => match x with
  | .int i => Q (some i) H1
  | _ => False) W
theorem p_no : SP X j pNo none := ⟨_, po_none, fun c σ H Q q H1 x F k => k _ _ _ x q⟩
theorem p_at (h : SX X j t e) : SP X j (pAt t) (some e) := ⟨_, po_some pe_W, fun c σ H Q q H1 x F k => (h.run c q).t x fun v H2 ⟨H3, x3, q⟩ => by
  cases v <;> first | exact ⟨_, rfl, k _ _ _ x3 q⟩ | exact q.elim⟩
abbrev RSl := V → Option Int → Option Int → Hp → VK → Prop
def SSl (X : Cx) (r : RSl) : Prop := ∃ r0, SlR X r0 ∧ ∀ x lo hi H Q, r x lo hi H Q → ∀ H1, Ex H H1 → r0 x lo hi H1 (up Q)
def rSl (r : RSl) (t : RX) (lo hi : RP) : RX := fun σ H Q W => t σ H (fun x H1 => lo σ H1 (fun l H2 => hi σ H2 (fun u H3 => r x l u H3 Q) W) W) W
theorem s_sl {r : RSl} {tl th : RP} {lo hi : Option Expr} (hr : SSl X r) (h : SX X j t e) (hl : SP X j tl lo) (hh : SP X j th hi) : SX X j (rSl r t tl th) (.Subscript e (.Slice lo hi none p2) pos) := by
  obtain ⟨r0, h0, k⟩ := hr
  obtain ⟨t1, p1, k1⟩ := hl.ex
  obtain ⟨t2, p2, k2⟩ := hh.ex
  exact ⟨fun c σ H Q q => .of (pe_slice h0 pe_W p1 p2) fun H1 x => (h.run c q).t x fun v H2 ⟨H3, x3, q⟩ => k1 c q H2 x3 _ fun l H4 H5 x5 q => k2 c q H4 x5 _ fun u H6 H7 x7 q => k _ _ _ _ _ q H6 x7⟩
def slL (K : PySem.W.Frag) : RSl := fun x lo hi H Q => ∃ a xs, x = .ref a ∧ SqL K H a xs ∧ ∀ p, H p = none → Q (.ref p) (upd H p (.lst (cutV xs lo hi)))
def slT (K : PySem.W.Frag) : RSl := fun x lo hi H Q => ∃ a xs, x = .ref a ∧ SqT K H a xs ∧ (HT.sIx xs.length 0 lo = 0 ∧ HT.sIx xs.length xs.length hi = xs.length → Q (.ref a) H) ∧ (¬ (HT.sIx xs.length 0 lo = 0 ∧ HT.sIx xs.length xs.length hi = xs.length) → ∀ p, H p = none → Q (.ref p) (upd H p (.tup (cutV xs lo hi))))
def slS : RSl := fun x lo hi H Q => ∃ z, x = .str z ∧ z.length ≤ sizeLine ∧ Q (.str (cutS z lo hi)) H
theorem l_lst : SSl X (slL X.K) := ⟨_, sl_list, fun _ _ _ H _ ⟨a, xs, e, h, q⟩ H1 x => ⟨a, xs, e, x.sqL h, fun p n => ⟨_, x.set p _, q p (x.free n)⟩⟩⟩
theorem l_tup : SSl X (slT X.K) := ⟨_, sl_tupA, fun _ _ _ H _ ⟨a, xs, e, h, q1, q2⟩ H1 x => ⟨a, xs, e, x.sqT h, fun z => ⟨H, x, q1 z⟩, fun z p n => ⟨_, x.set p _, q2 z p (x.free n)⟩⟩⟩
theorem l_str : SSl X slS := ⟨_, sl_str, fun _ _ _ H _ ⟨a, e, h, q⟩ H1 x => ⟨a, e, h, H, x, q⟩⟩
/-! ## equality of data -/
def oEqD (K : PySem.W.Frag) : RO := fun x y H Q => ∃ d e, Dp K H x d ∧ Dp K H y e ∧ SeqAt.shaped d = true ∧ SeqAt.shaped e = true ∧ Q (.bl (PyData.eqv d e)) H
def oNeD (K : PySem.W.Frag) : RO := fun x y H Q => ∃ d e, Dp K H x d ∧ Dp K H y e ∧ SeqAt.shaped d = true ∧ SeqAt.shaped e = true ∧ Q (.bl (!PyData.eqv d e)) H
theorem SO.of {f : Value → Value → Sem Value} {r r0 : RO} (h : OpR X f r0) (k : ∀ x y H Q, r x y H Q → ∀ H1, Ex H H1 → r0 x y H1 (up Q)) : SO X f r := fun x y H Q q => .of h fun H1 e => k _ _ _ _ q H1 e
/-- with more room -/
def SOr2 (X : Cx) (f : Value → Value → Sem Value) (r : RO) : Prop := X.A.units + 64 < cLine → SO X f r
theorem b_cmpr2 {op : CmpOp} {r : RO} (ho : SOr2 X (compareOp op) r) (ha : SX X j ta a) (hb : SX X j tb b) (hm : behindInMarks op b = false := by first | exact nomark _ | with_unfolding_all rfl) : SB X j (tCmp r ta tb) (.Compare a [op] [b] pos) :=
  ⟨fun c _ _ _ h => (b_cmp (ho c.room.units) ha hb hm).run c h⟩
theorem s_cmpr2 {op : CmpOp} {r : RO} (ho : SOr2 X (compareOp op) r) (ha : SX X j ta a) (hb : SX X j tb b) (hm : behindInMarks op b = false := by first | exact nomark _ | with_unfolding_all rfl) : SX X j (rBin r ta tb) (.Compare a [op] [b] pos) :=
  ⟨fun c _ _ _ h => (s_cmp (ho c.room.units) ha hb hm).run c h⟩
theorem o_eqD : SOr2 X (compareOp .Eq) (oEqD X.K) := fun hu => .of (op_eqD hu) fun x y H Q ⟨d, e, h1, h2, s1, s2, q⟩ H1 x => ⟨d, e, Dp.ex x h1, Dp.ex x h2, s1, s2, H, x, q⟩
theorem o_neD : SOr2 X (compareOp .NotEq) (oNeD X.K) := fun hu => .of (op_neD hu) fun x y H Q ⟨d, e, h1, h2, s1, s2, q⟩ H1 x => ⟨d, e, Dp.ex x h1, Dp.ex x h2, s1, s2, H, x, q⟩
/-! ## tuples -/
def oCatT (K : PySem.W.Frag) : RO := fun x y H Q => ∃ a b xs ys, x = .ref a ∧ y = .ref b ∧ SqT K H a xs ∧ SqT K H b ys ∧ xs ≠ [] ∧ xs.length + ys.length ≤ 100000 ∧ (ys = [] → Q (.ref a) H) ∧ (ys ≠ [] → ∀ p, H p = none → Q (.ref p) (upd H p (.tup (xs ++ ys))))
theorem o_catT : SO X (binaryOp .Add) (oCatT X.K) := .of op_catT fun x y H Q ⟨a, b, xs, ys, e1, e2, h1, h2, ne, hz, q1, q2⟩ H1 x => ⟨a, b, xs, ys, e1, e2, x.sqT h1, x.sqT h2, ne, small hz, fun z => ⟨H, x, q1 z⟩, fun z p n => ⟨_, x.set p _, q2 z p (x.free n)⟩⟩
/-! ## methods of built-in types -/
abbrev RM := V → List V → Hp → VK → Prop
def SM (X : Cx) (id : String) (r : RM) : Prop := ∃ r0, MtR X id r0 ∧ ∀ x vs H Q, r x vs H Q → ∀ H1, Ex H H1 → r0 x vs H1 (up Q)
theorem tyV_ex {K : PySem.W.Frag} {T : String} {x : V} {H H1 : Hp} (e : Ex H H1) (h : tyV K T x H) : tyV K T x H1 := by
  cases x with
  | ref p =>
    rcases h with ⟨e1, xs, h⟩ | h | ⟨e1, h⟩ | ⟨e1, S, n, h⟩
    · exact .inl ⟨e1, xs, e.sqL h⟩
    · exact .inr (.inl h)
    · rcases h with ⟨kvs, h⟩ | ⟨kvs, h⟩
      · exact .inr (.inr (.inl ⟨e1, .inl ⟨kvs, e _ _ h⟩⟩))
      · exact .inr (.inr (.inl ⟨e1, .inr ⟨kvs, e _ _ h⟩⟩))
    · exact .inr (.inr (.inr ⟨e1, S, n, e _ _ h⟩))
  | _ => exact h
def rBm (K : PySem.W.Frag) (T : String) (r : RM) (to : RX) (t : RA) : RX := fun σ H Q W => to σ H (fun x H1 => tyV K T x H1 ∧ t σ H1 (fun vs H2 => r x vs H2 Q) W) W
theorem s_bm {T id : String} {r : RM} (pa : PlainAttrs T) (slot : Slot T name id) (hty : typeOf (.builtin id) = pure (.type "method_descriptor")) (hm : SM X id r) (ho : SX X j to o) (ha : SA X j tr (e :: es))
    (hbase : attributeBase o name X.env (eval o X.env) = eval o X.env := by rfl)
    (hfew : ((backTo cpos (starEach (e :: es) X.env)).all (fun x => !x.1) && (backToKw cpos (keywordEach [] X.env)).all (fun x => x.1.isSome)
      && decide ((e :: es).length + ([] : List Keyword).length + (if ([] : List Keyword).isEmpty then 0 else 1) < 30)) = true := by rfl)
    (hline : (apos.endLine == cpos.line) = true := by rfl) (hs : starEach (e :: es) X.env = (false, eval e X.env) :: starEach es X.env := by rfl) (hplain : (backTo cpos (starEach es X.env)).any (·.1) = false := by rfl) : SX X j (rBm X.K T r to tr) (.Call (.Attribute o name apos) (e :: es) [] cpos) := by
  obtain ⟨r0, h0, k⟩ := hm
  exact ⟨fun c σ H Q q => .of (pe_bm pa slot hty h0 pe_W pa_W hbase hfew hline hs hplain) fun H1 x => (ho.run c q).t x fun v H2 ⟨H3, x3, ty, q⟩ => ⟨tyV_ex x3 ty, (ha.run c q).t x3 fun vs H4 ⟨H5, x5, q⟩ => k _ _ _ _ q H4 x5⟩⟩
theorem s_bm0 {T id : String} {r : RM} (pa : PlainAttrs T) (slot : Slot T name id) (hty : typeOf (.builtin id) = pure (.type "method_descriptor")) (hm : SM X id r) (ho : SX X j to o)
    (hbase : attributeBase o name X.env (eval o X.env) = eval o X.env := by rfl) (hline : (apos.endLine == cpos.line) = true := by rfl) : SX X j (rBm X.K T r to aNil) (.Call (.Attribute o name apos) [] [] cpos) := by
  obtain ⟨r0, h0, k⟩ := hm
  exact ⟨fun c σ H Q q => .of (pe_bm0 pa slot hty h0 pe_W hbase hline) fun H1 x => (ho.run c q).t x fun v H2 ⟨H3, x3, ty, q⟩ => ⟨tyV_ex x3 ty, k _ _ _ _ q H2 x3⟩⟩
def mApp : RM := fun x vs H Q => ∃ l xs y, x = .ref l ∧ vs = [y] ∧ H l = some (.lst xs) ∧ xs.length ≤ 100000 ∧ Q .non (upd H l (.lst (xs ++ [y])))
theorem m_app : SM X "list.append" mApp := ⟨_, mt_append, fun x vs H Q ⟨l, xs, y, e1, e2, h, hz, q⟩ H1 x => ⟨l, xs, y, e1, e2, x _ _ h, Nat.lt_of_le_of_lt hz (by decide), _, x.set l _, q⟩⟩
def mRem : RM := fun x vs H Q => ∃ (l : Addr) (ns : List Int) (k : Int) (i : Nat), x = .ref l ∧ vs = [.int k] ∧ H l = some (.lst (ns.map V.int)) ∧ ns[i]? = some k ∧ (∀ m : Nat, m < i → ns[m]? ≠ some k) ∧ Q .non (upd H l (.lst ((ns.eraseIdx i).map V.int)))
theorem m_rem : SM X "list.remove" mRem := ⟨_, mt_remove, fun x vs H Q ⟨l, ns, k, i, e1, e2, h, h1, h2, q⟩ H1 x => ⟨l, ns, k, i, e1, e2, x _ _ h, h1, h2, _, x.set l _, q⟩⟩
def mRev : RM := fun x vs H Q => ∃ l xs, x = .ref l ∧ vs = [] ∧ H l = some (.lst xs) ∧ Q .non (upd H l (.lst xs.reverse))
theorem m_rev : SM X "list.reverse" mRev := ⟨_, mt_reverse, fun x vs H Q ⟨l, xs, e1, e2, h, q⟩ H1 x => ⟨l, xs, e1, e2, x _ _ h, _, x.set l _, q⟩⟩
def mClr : RM := fun x vs H Q => ∃ l xs, x = .ref l ∧ vs = [] ∧ H l = some (.lst xs) ∧ Q .non (upd H l (.lst []))
theorem m_clr : SM X "list.clear" mClr := ⟨_, mt_clear, fun x vs H Q ⟨l, xs, e1, e2, h, q⟩ H1 x => ⟨l, xs, e1, e2, x _ _ h, _, x.set l _, q⟩⟩
/-! ## max, min, sorted of a list -/
def cMaxL (K : PySem.W.Frag) : RC := c1 fun x H Q => ∃ (a : Addr) (ns : List Int), x = .ref a ∧ SqL K H a (ns.map V.int) ∧ 0 < ns.length ∧ ∀ m, m ∈ ns → (∀ y, y ∈ ns → y ≤ m) → Q (.int m) H
def cMinL (K : PySem.W.Frag) : RC := c1 fun x H Q => ∃ (a : Addr) (ns : List Int), x = .ref a ∧ SqL K H a (ns.map V.int) ∧ 0 < ns.length ∧ ∀ m, m ∈ ns → (∀ y, y ∈ ns → m ≤ y) → Q (.int m) H
theorem c_maxL (hc : X.calm = true := by rfl) : SC X (.builtin "max") (cMaxL X.K) := sc1 fun x H Q ⟨a, ns, e, h, hn, q⟩ => by
  subst e
  exact .of (cr_max hc) fun H1 x => ⟨a, ns, rfl, x.sqL h, hn, fun m h1 h2 => ⟨H, x, q m h1 h2⟩⟩
theorem c_minL (hc : X.calm = true := by rfl) : SC X (.builtin "min") (cMinL X.K) := sc1 fun x H Q ⟨a, ns, e, h, hn, q⟩ => by
  subst e
  exact .of (cr_min hc) fun H1 x => ⟨a, ns, rfl, x.sqL h, hn, fun m h1 h2 => ⟨H, x, q m h1 h2⟩⟩
/-! ## an instance's own len, repr, == -/
theorem run_fngA {vs : List V} {f : Addr} {fd : FuncData} {ps : List Str} {sp : Sp} {us : List Value} {pins : List (Addr × Obj)} {s : Shared} {A : Around} (F : FnG X.prog X.w X.K X.mg X.base k f fd ps sp) (hr : Room k A) (hg : A.guards = some []) (hf : A.frames = X.A.frames) (tk : Takes X (upW W))
    (hb : Binds X.K fd ps []) (I : Inv X pins σ H1 s) (x : Ex H H1) (r : Vals vs us) (h : sp vs H Q fun c d H' => W c d σ H') : wpAny (model X.prog X.w) A (call (.ref f) us) (EP X pins σ (up Q)) X.xe s := by
  have hl : us.length = ps.length := r.length.symm.trans (F.len _ _ _ _ h)
  have e0 : Env0 X.prog X.w X.K X.mg X.base A X.stack s H1 := by
    have e := I.env0
    exact ⟨by rw [hf]; exact e.frames, e.mod, e.bs, e.bsz, e.funs, e.frf, e.hok, e.bare⟩
  refine wpAny_call (codeAny_mono (F.run A X.stack s H1 ⟨us, []⟩ us vs H Q _ hr hg e0 (by
    have := hb s us I.kIn (by simpa using hl)
    simpa using this) r x h) fun res s' q => ?_)
  rcases res with er | fl
  · exact tk er s' (XE.of_call I (fun cl d H' ⟨H2, x2, q2⟩ => ⟨H2, x2, q2⟩) q)
  · cases fl with
    | ret u => exact I.after q
    | _ => exact q.elim
theorem fr_in1 {A : Around} : A.in1.frames = A.frames := rfl
theorem gd_in1 {A : Around} : A.in1.guards = A.guards := rfl
/-- len(o), o of the class C with its own __len__ -/
def rLenO (C : Addr) (sp : Sp) (to : RX) : RX := fun σ H Q W => to σ H (fun x H1 => ∃ a dx fs, x = .ref a ∧ H1 a = some (.ins C dx fs) ∧ sp [x] H1 (fun v H2 => match v with
  | .int n => (0 ≤ n ∧ n < 2 ^ 63) ∧ Q (.int n) H2
  | _ => False) fun c d H' => W c d σ H') W
theorem inst_of {pins : List (Addr × Obj)} {s : Shared} {a dx : Addr} {fs : List (Str × V)} (I : Inv X pins σ H s) (h : H a = some (.ins C dx fs)) : ∃ m od, Fr X.base X.env.locals s.heap m ∧ PySem.W.InstAt s.heap a (PySem.W.instObj C dx) C od := by
  obtain ⟨mA, J, _⟩ := ins_get I.hok h
  obtain ⟨od, J, _⟩ := J.look
  obtain ⟨m, hF⟩ := I.fr
  exact ⟨m, _, hF, J⟩
theorem s_lenO {sp : Sp} {ps : List Str} (Cm : CalM X.prog X.w X.K X.mg X.base C "__len__" k ps [] sp) (hm : X.mg "len" = none) (h : SX X j to e) (hkj : k + 1 ≤ j := by decide) (hg : Gl X "len" := by rfl)
    (he : starEach [e] X.env = (false, eval e X.env) :: starEach [] X.env := by rfl) (hpl : (backTo pos (starEach [] X.env)).any (·.1) = false := by rfl) : SX X j (rLenO C sp to) (.Call (.Name "len" p) [e] [] pos) := by
  obtain ⟨f, fd, ds, F, hmt, hb, hd⟩ := Cm.ex
  cases hd
  refine ⟨fun c σ H Q q H1 x pins s I => ?_⟩
  refine wpAny_Call_Name_kw (ld_blt I hg hm PySem.boot_len ?_ (by decide) (by decide))
  refine PyProof.Rows.callWith_builtin1 (PyProof.Rows.args_cons (thn (h.run c q H1 x pins s I) fun u s1 ⟨y, H2, I2, ry, H3, x3, a, dx, fs, ex, ea, q⟩ => PyProof.Rows.args_nil ?_) he) he hpl
  subst ex
  obtain rfl : u = Value.ref a := ry
  obtain ⟨m, od, hF, J⟩ := inst_of I2 (x3 _ _ ea)
  refine PySem.W.len_K hF I2.ok.mod.kin J hmt.at_ hmt.fn ?_
  refine wpAny_mono (run_fngA (A := X.A.in1) (us := [.ref a]) (vs := [.ref a]) F (c.mono hkj).room.in1 c.gd rfl c.tk hb I2 x3 (.cons rfl .nil) q) (fun v s' ⟨z, H4, I4, rz, H5, x5, qz⟩ => ?_) fun _ _ x => x
  cases z <;> first | exact qz.elim | skip
  obtain ⟨tk, rfl⟩ := rz
  exact ⟨qz.1, .int _, H4, I4.tok _, ⟨_, rfl⟩, H5, x5, qz.2⟩
/-- repr(o) by its own __repr__ -/
def rReprO (C : Addr) (sp : Sp) (to : RX) : RX := fun σ H Q W => to σ H (fun x H1 => ∃ a dx fs, x = .ref a ∧ H1 a = some (.ins C dx fs) ∧ sp [x] H1 (fun v H2 => match v with
  | .str z => Q (.str z) H2
  | _ => False) fun c d H' => W c d σ H') W
theorem s_reprO {sp : Sp} {ps : List Str} (Cm : CalM X.prog X.w X.K X.mg X.base C "__repr__" k ps [] sp) (hm : X.mg "repr" = none) (h : SX X j to e) (hkj : k + 1 ≤ j := by decide) (hg : Gl X "repr" := by rfl)
    (he : starEach [e] X.env = (false, eval e X.env) :: starEach [] X.env := by rfl) (hpl : (backTo pos (starEach [] X.env)).any (·.1) = false := by rfl) : SX X j (rReprO C sp to) (.Call (.Name "repr" p) [e] [] pos) := by
  obtain ⟨f, fd, ds, F, hmt, hb, hd⟩ := Cm.ex
  cases hd
  refine ⟨fun c σ H Q q H1 x pins s I => ?_⟩
  refine wpAny_Call_Name_kw (ld_blt I hg hm PyProof.Rows.boot_repr ?_ (by decide) (by decide))
  refine PyProof.Rows.callWith_builtin1 (PyProof.Rows.args_cons (thn (h.run c q H1 x pins s I) fun u s1 ⟨y, H2, I2, ry, H3, x3, a, dx, fs, ex, ea, q⟩ => PyProof.Rows.args_nil ?_) he) he hpl
  subst ex
  obtain rfl : u = Value.ref a := ry
  obtain ⟨m, od, hF, J⟩ := inst_of I2 (x3 _ _ ea)
  refine PySem.W.repr_K (c.mono hkj).room.in1.units0 hF I2.ok.mod.kin J hmt.at_ hmt.fn ?_
  refine wpAny_mono (run_fngA (A := X.A.in1) (us := [.ref a]) (vs := [.ref a]) F (c.mono hkj).room.in1 c.gd rfl c.tk hb I2 x3 (.cons rfl .nil) q) (fun v s' ⟨z, H4, I4, rz, H5, x5, qz⟩ => ?_) fun _ _ x => x
  cases z <;> first | exact qz.elim | skip
  obtain ⟨tk, rfl⟩ := rz
  exact ⟨.str _, H4, I4, ⟨_, rfl⟩, H5, x5, qz⟩
/-- x == y, x of the class C with its own __eq__, y of the class C' -/
def oEqO (C C' : Addr) (sp : Sp) : RO := fun x y H Q => ∃ a dx fs b dy gs, x = .ref a ∧ y = .ref b ∧ H a = some (.ins C dx fs) ∧ H b = some (.ins C' dy gs) ∧ sp [x, y] H (fun v H2 => ∃ r, v = .bl r ∧ Q (.bl r) H2) fun _ _ _ => False
end
section
variable {X : Cx} {j : Nat} {W : WX} {a b : Expr} {pos : Pos} {ta tb : RX} {C C' : Addr} {k : Nat}
/-- an operator that calls: at a context's own level -/
structure SOc (X : Cx) (j : Nat) (f : Value → Value → Sem Value) (r : RO) : Prop where
  run : ∀ {W}, Cn X W j → SO X f r
theorem b_cmpc {op : CmpOp} {r : RO} (ho : SOc X j (compareOp op) r) (ha : SX X j ta a) (hb : SX X j tb b) (hm : behindInMarks op b = false := by first | exact nomark _ | with_unfolding_all rfl) : SB X j (tCmp r ta tb) (.Compare a [op] [b] pos) :=
  ⟨fun c _ _ _ h => (b_cmp (ho.run c) ha hb hm).run c h⟩
theorem s_cmpc {op : CmpOp} {r : RO} (ho : SOc X j (compareOp op) r) (ha : SX X j ta a) (hb : SX X j tb b) (hm : behindInMarks op b = false := by first | exact nomark _ | with_unfolding_all rfl) : SX X j (rBin r ta tb) (.Compare a [op] [b] pos) :=
  ⟨fun c _ _ _ h => (s_cmp (ho.run c) ha hb hm).run c h⟩
theorem o_eqO {sp : Sp} {ps : List Str} (Cm : CalM X.prog X.w X.K X.mg X.base C "__eq__" k ps [] sp) (nf : PySem.W.notFirst X.K C (.ref C') = true := by simp [PySem.W.notFirst]) (hkj : k ≤ j := by decide) : SOc X j (compareOp .Eq) (oEqO C C' sp) := by
  obtain ⟨f, fd, ds, F, hmt, hb, hd⟩ := Cm.ex
  cases hd
  refine ⟨fun c x y H Q ⟨a, dx, fs, b, dy, gs, e1, e2, h1, h2, q⟩ H1 x1 pins s σ v u I r1 r2 => ?_⟩
  subst e1 e2
  obtain rfl : v = Value.ref a := r1
  obtain rfl : u = Value.ref b := r2
  obtain ⟨m, od, hF, J⟩ := inst_of I (x1 _ _ h1)
  obtain ⟨m', od', hF', J'⟩ := inst_of I (x1 _ _ h2)
  refine PySem.W.cmp_K (op := .Eq) (tb := .ref C') c.room.units0 hF I.ok.mod.kin J J'.type nf hmt.at_ hmt.fn ?_
  refine wpAny_mono (run_fngA (W := fun _ _ _ _ => False) (A := X.A) (us := [.ref a, .ref b]) (vs := [.ref a, .ref b]) F (c.mono hkj).room c.gd rfl ?_ hb I x1 (.cons rfl (.cons rfl .nil)) q) (fun v s' ⟨z, H4, I4, rz, H5, x5, r, ez, qz⟩ => ?_) fun _ _ x => x
  · exact c.tk.imp fun cl d σ H ⟨_, _, z⟩ => z.elim
  · subst ez
    cases rz
    exact ⟨.bl _, H4, I4, rfl, H5, x5, qz⟩
end
/-! ## methods and classes called with keywords -/
section
variable {X : Cx} {j : Nat} {W : WX} {e a b c o : Expr} {es rest : List Expr} {kws : List Keyword} {σ : St} {H H1 : Hp} {Q : VK} {pos p apos : Pos} {t ta tb to : RX} {tr tk : RA} {n f m : Str} {C : Addr} {sp : Sp} {k nv nk : Nat} {ps ks : List Str} {gV : List V → List V → List V}
/-- o.m(.., k = v): nv the number of positional values with self -/
def rMethN (C : Addr) (m : Str) (sp : Sp) (nv nk : Nat) (gV : List V → List V → List V) (to : RX) (t tk : RA) : RX := fun σ H Q W => to σ H (fun x H1 => ∃ a dx fs, x = .ref a ∧ H1 a = some (.ins C dx fs) ∧ fs.lookup m = none ∧
  t σ H1 (fun vs H2 => tk σ H2 (fun zs H3 => vs.length + 1 = nv ∧ zs.length = nk ∧ sp (gV (x :: vs) zs) H3 Q fun c d H' => W c d σ H') W) W) W
theorem s_methK {pl : Sem Bool} (cl : Cls X.K C) (Cm : CalMK X.prog X.w X.K X.mg X.base C m k nv ks gV sp) (h : SX X j to o) (ha : SA X j tr (e :: es)) (hk : SK X j tk kws) (hnk : ks.length = nk := by rfl) (hkj : k ≤ j := by decide)
    (hall : (backToKw pos (keywordEach kws X.env)).all (·.1.isSome) = true := by rfl) (hks : (backToKw pos (keywordEach kws X.env)).filterMap (·.1) = ks := by rfl)
    (he : starEach (e :: es) X.env = (false, eval e X.env) :: starEach es X.env := by rfl)
    (hpl : ((backTo pos (starEach (e :: es) X.env)).any (·.1) || (backToKw pos (keywordEach kws X.env)).any (·.1.isNone)) = false := by rfl)
    (ht : eval (.Call (.Attribute o m apos) (e :: es) kws pos) X.env = (do
      let ov ← eval o X.env
      standAt apos.atName
      let (f, first) ← holding [ov] (getMethod ov m pl)
      callWith pos f first (backTo pos (starEach (e :: es) X.env)) (backToKw pos (keywordEach kws X.env))) := by rfl) : SX X j (rMethN C m sp nv nk gV to tr tk) (.Call (.Attribute o m apos) (e :: es) kws pos) := by
  obtain ⟨f, fd, ps, g, F, hm, hb⟩ := Cm.ex
  refine ⟨fun cn σ H Q q H1 x pins s I => ?_⟩
  refine PySem.W.methodCall_KW (pl := pl) (thn (h.run cn q H1 x pins s I) fun u s1 ⟨y, H2, I2, ry, H3, x3, a, dx, fs, ex, ea, l, q⟩ => ?_) ht
  subst ex
  obtain rfl : u = Value.ref a := ry
  refine getmeth_ok I2 (x3 _ _ ea) cl hm l ?_
  refine PySem.W.callWith_KW (first := [.ref a]) (h₀ := X.base) I2.ok.mod.kin hm.kp hall (thn (ha.run cn q H2 x3 pos pins s1 I2) fun us s2 ⟨vs, H4, I4, r, H5, x5, q2⟩ => ?_) hpl he
  refine thn (hk.run cn q2 H4 x5 pos pins s2 I4) fun ws s3 ⟨zs, H6, I6, rz, H7, x7, l1, l2, q3⟩ => ⟨I6.kIn, ?_⟩
  rw [hks]
  exact run_fngNU (us := .ref a :: us) (vs := .ref a :: vs) F (cn.mono hkj) hb I6 x7 (.cons rfl r) rz l1 (l2.trans hnk.symm) q3
theorem s_methK0 {pl : Sem Bool} (cl : Cls X.K C) (Cm : CalMK X.prog X.w X.K X.mg X.base C m k 1 ks gV sp) (h : SX X j to o) (hk : SK X j tk kws) (hnk : ks.length = nk := by rfl) (hkj : k ≤ j := by decide)
    (hall : (backToKw pos (keywordEach kws X.env)).all (·.1.isSome) = true := by rfl) (hks : (backToKw pos (keywordEach kws X.env)).filterMap (·.1) = ks := by rfl)
    (hpl : ((backTo pos (starEach [] X.env)).any (·.1) || (backToKw pos (keywordEach kws X.env)).any (·.1.isNone)) = false := by rfl)
    (ht : eval (.Call (.Attribute o m apos) [] kws pos) X.env = (do
      let ov ← eval o X.env
      standAt apos.atName
      let (f, first) ← holding [ov] (getMethod ov m pl)
      callWith pos f first (backTo pos (starEach [] X.env)) (backToKw pos (keywordEach kws X.env))) := by rfl) : SX X j (rMethN C m sp 1 nk gV to aNil tk) (.Call (.Attribute o m apos) [] kws pos) := by
  obtain ⟨f, fd, ps, g, F, hm, hb⟩ := Cm.ex
  refine ⟨fun cn σ H Q q H1 x pins s I => ?_⟩
  refine PySem.W.methodCall_KW (pl := pl) (thn (h.run cn q H1 x pins s I) fun u s1 ⟨y, H2, I2, ry, H3, x3, a, dx, fs, ex, ea, l, q⟩ => ?_) ht
  subst ex
  obtain rfl : u = Value.ref a := ry
  refine getmeth_ok I2 (x3 _ _ ea) cl hm l ?_
  refine PySem.W.callWith_KW0 (first := [.ref a]) (h₀ := X.base) I2.ok.mod.kin hm.kp hall ?_ hpl
  refine thn (hk.run cn q H2 x3 pos pins s1 I2) fun ws s3 ⟨zs, H6, I6, rz, H7, x7, _, l2, q3⟩ => ⟨I6.kIn, ?_⟩
  rw [hks]
  exact run_fngNU (us := [.ref a]) (vs := [.ref a]) F (cn.mono hkj) hb I6 x7 (.cons rfl .nil) rz rfl (l2.trans hnk.symm) q3
/-- C(.., k = v): nv the number of positional values with self -/
def rMakeN (C : Addr) (sp : Sp) (nv nk : Nat) (gV : List V → List V → List V) (t tk : RA) : RX := fun σ H Q W => t σ H (fun vs H1 => tk σ H1 (fun zs H2 => vs.length + 1 = nv ∧ zs.length = nk ∧ ∀ x dx, H2 x = none → H2 dx = none → dx ≠ x →
  sp (gV (.ref x :: vs) zs) (upd (upd H2 dx (.own x)) x (.ins C dx [])) (fun v H3 => v = .non ∧ Q (.ref x) H3) fun c d H' => W c d σ H') W) W
theorem run_makeNU {us ws : List Value} {f : Addr} {fd : FuncData} {vs zs : List V} {pins : List (Addr × Obj)} {s : Shared} {g : List Value → List Value → List Value} (hmk : PySem.W.makesIn X.K C = true) (hm : Meth X.K C "__init__" f) (F : FnG X.prog X.w X.K X.mg X.base k f fd ps sp) (c : Cn X (upW W) (k + 1)) (hb : KBn X.K fd ps nv ks g gV)
    (I : Inv X pins σ H1 s) (x : Ex H H1) (r : Vals vs us) (rz : Vals zs ws) (l1 : vs.length + 1 = nv) (l2 : zs.length = ks.length)
    (h : ∀ x dx, H x = none → H dx = none → dx ≠ x → sp (gV (.ref x :: vs) zs) (upd (upd H dx (.own x)) x (.ins C dx [])) (fun v H2 => v = .non ∧ Q (.ref x) H2) fun c d H' => W c d σ H') :
    wpAny (model X.prog X.w) X.A (call (.ref C) us (ks.zip ws)) (EP X pins σ (up Q)) X.xe s := by
  have f1 := I.hok.fresh (Nat.le_succ s.heap.objs.size)
  have f2 := I.hok.fresh (Nat.le_refl s.heap.objs.size)
  have hq := h (s.heap.objs.size + 1) s.heap.objs.size (x.free f1) (x.free f2) (Nat.ne_of_lt (Nat.lt_succ_self _))
  have I2 := Inv.made (C := C) I
  have x2 : Ex (upd (upd H s.heap.objs.size (.own (s.heap.objs.size + 1))) (s.heap.objs.size + 1) (.ins C s.heap.objs.size [])) (upd (upd H1 s.heap.objs.size (.own (s.heap.objs.size + 1))) (s.heap.objs.size + 1) (.ins C s.heap.objs.size [])) := (x.set _ _).set _ _
  have r1 : Vals (V.ref (s.heap.objs.size + 1) :: vs) (Value.ref (s.heap.objs.size + 1) :: us) := .cons rfl r
  have r2 := hb.rel r1 rz
  have e1 : (Value.ref (s.heap.objs.size + 1) :: us).length = nv := r1.length.symm.trans l1
  have e2 : ws.length = ks.length := rz.length.symm.trans l2
  refine wpAny_call (make_map (f := f) I.kIn hmk hm.at_ (beq_iff_eq.mp hm.fn) (codeAny_mono (F.run _ X.stack _ _ ⟨Value.ref (s.heap.objs.size + 1) :: us, ks.zip ws⟩ (g (Value.ref (s.heap.objs.size + 1) :: us) ws) _ _ _ _ (c.room.make C us (ks.zip ws)) (Around.gd_make c.gd C us (ks.zip ws))
    (I2.env0.make C us (ks.zip ws)) (hb.to _ (Value.ref (s.heap.objs.size + 1) :: us) ws I2.kIn e1 e2) r2 x2 hq) fun r s' hq' => ?_))
  rcases r with e | fl
  · exact c.tk e s' (XE.of_call I2 (fun cl d H' ⟨H2, x2, q2⟩ => ⟨H2, x2, q2⟩) hq')
  · cases fl with
    | ret u =>
      obtain ⟨v, H', I3, rv, H4, x4, ev, q3⟩ := I2.after hq'
      subst ev
      exact ⟨rv, ⟨V.ref (s.heap.objs.size + 1), H', I3, rfl, H4, x4, q3⟩⟩
    | next => exact False.elim hq'
    | brk => exact False.elim hq'
    | cont => exact False.elim hq'
theorem s_makeK (M : MkC X.K X.mg n C) (Cm : CalMK X.prog X.w X.K X.mg X.base C "__init__" k nv ks gV sp) (h : SA X j tr (e :: es)) (hk : SK X j tk kws) (hnk : ks.length = nk := by rfl) (hkj : k + 1 ≤ j := by decide) (hg : Gl X n := by rfl)
    (hall : (backToKw pos (keywordEach kws X.env)).all (·.1.isSome) = true := by rfl) (hks : (backToKw pos (keywordEach kws X.env)).filterMap (·.1) = ks := by rfl)
    (hdb : (n == ("__debug__" : Str)) = false := by decide) (he : starEach (e :: es) X.env = (false, eval e X.env) :: starEach es X.env := by rfl)
    (hpl : ((backTo pos (starEach (e :: es) X.env)).any (·.1) || (backToKw pos (keywordEach kws X.env)).any (·.1.isNone)) = false := by rfl) : SX X j (rMakeN C sp nv nk gV tr tk) (.Call (.Name n p) (e :: es) kws pos) := by
  obtain ⟨f, fd, ps, g, F, hm, hb⟩ := Cm.ex
  refine ⟨fun c σ H Q q H1 x pins s I => ?_⟩
  refine wpAny_Call_Name_kw (ld_glob I hg M.g ?_ hdb)
  refine PySem.W.callWith_KW (h₀ := X.base) I.ok.mod.kin M.kp hall (thn (h.run c q H1 x pos pins s I) fun us s1 ⟨vs, H2, I2, r, H3, x3, q⟩ => ?_) hpl he
  refine thn (hk.run c q H2 x3 pos pins s1 I2) fun ws s2 ⟨zs, H4, I4, rz, H5, x5, l1, l2, q2⟩ => ⟨I4.kIn, ?_⟩
  rw [hks]
  exact run_makeNU M.makes hm F (c.mono hkj) hb I4 x5 r rz l1 (l2.trans hnk.symm) q2
theorem s_makeK0 (M : MkC X.K X.mg n C) (Cm : CalMK X.prog X.w X.K X.mg X.base C "__init__" k 1 ks gV sp) (hk : SK X j tk kws) (hnk : ks.length = nk := by rfl) (hkj : k + 1 ≤ j := by decide) (hg : Gl X n := by rfl)
    (hall : (backToKw pos (keywordEach kws X.env)).all (·.1.isSome) = true := by rfl) (hks : (backToKw pos (keywordEach kws X.env)).filterMap (·.1) = ks := by rfl)
    (hdb : (n == ("__debug__" : Str)) = false := by decide)
    (hpl : ((backTo pos (starEach [] X.env)).any (·.1) || (backToKw pos (keywordEach kws X.env)).any (·.1.isNone)) = false := by rfl) : SX X j (rMakeN C sp 1 nk gV aNil tk) (.Call (.Name n p) [] kws pos) := by
  obtain ⟨f, fd, ps, g, F, hm, hb⟩ := Cm.ex
  refine ⟨fun c σ H Q q H1 x pins s I => ?_⟩
  refine wpAny_Call_Name_kw (ld_glob I hg M.g ?_ hdb)
  refine PySem.W.callWith_KW0 (h₀ := X.base) I.ok.mod.kin M.kp hall ?_ hpl
  refine thn (hk.run c q H1 x pos pins s I) fun ws s2 ⟨zs, H4, I4, rz, H5, x5, _, l2, q2⟩ => ⟨I4.kIn, ?_⟩
  rw [hks]
  exact run_makeNU (us := []) (vs := []) M.makes hm F (c.mono hkj) hb I4 x5 .nil rz rfl (l2.trans hnk.symm) q2
/-- isinstance(o, C), o an instance of C -/
def cIsC (C : Addr) : RC := c2 fun x y H Q => ∃ a dx fs, x = .ref a ∧ y = .ref C ∧ H a = some (.ins C dx fs) ∧ Q (.bl true) H
theorem c_isC (c : C8.InsC X.K C) : SC X (.builtin "isinstance") (cIsC C) := sc2 fun x y H Q ⟨a, dx, fs, e1, e2, h, q⟩ => by
  subst e1 e2
  exact .of (C8.call_isC c) fun H1 x => ⟨a, dx, fs, rfl, x _ _ h, H, x, q⟩
/-- o.f as a target -/
def gFld (C : Addr) (f : Str) (to : RX) : RG := fun v σ H R W => to σ H (fun x H1 => ∃ a dx fs, x = .ref a ∧ H1 a = some (.ins C dx fs) ∧ fs.length < 1000 ∧ R σ (upd H1 a (.ins C dx (putF f v fs)))) W
theorem g_fld (cl : Cls X.K C) (na : NoAttr X.K C f) (ho : SX X j to o) (ha : ∀ v, assign (.Attribute o f pos) X.env v = (do
      let ov ← holding [v] (eval o X.env)
      standAt pos.atName
      holding [v, ov] (setAttr ov f v)
      release [v, ov] []) := by intro _; rfl) : SG X j (gFld C f to) (.Attribute o f pos) := ⟨fun c v σ H R q H1 x pins s u I r => by
  rw [ha]
  refine wpAny_bind (wpAny_holding (thn (ho.run c q H1 x pins s I) fun ov s1 ⟨y, H2, I2, ry, H3, x3, a, dx, fs, e, h, hl, q⟩ => ?_))
  subst e
  obtain rfl : ov = Value.ref a := ry
  refine wpAny_bind (wpAny_standAt (wpAny_bind (wpAny_holding (setattr_ok I2 (x3 _ _ h) cl na hl r fun s3 I3 => ?_))))
  exact wpAny_release ⟨σ, _, I3, _, x3.set a _, q⟩⟩
end
section
variable {P : Program} {w : World} {K : PySem.W.Frag} {mg : Str → Option Value} {base : Heap} {n : Str} {st : Stmt} {ps N : List Str} {k : Nat} {zs : RS} {kws : List (Str × V)}
theorem DefK.rfng (d : DefK K mg n st kws) (S : FnScope N ps (defScope st)) (hb : Body P w K mg base N n st d.f k zs) : FnG P w K mg base (k + 1) d.f d.fd ps (rFn ps.length N zs) := by
  obtain ⟨oc, od, dV, kV, doc, pm, an, cdv, ct, osl, e, lk, hcd, hD, hK⟩ := d.F.ex
  rcases hD with ⟨_, rfl⟩ | ⟨z, _⟩
  · exact fng_of ⟨⟨oc, od, kV, doc, pm, an, cdv, ct, osl, e, lk, hcd⟩, d.F.kp⟩ S (fun vs H Q E h => h.1) fun cd A outer s H1 E1 W vs H Q E c o hW h => by
      have c2 : Cn (fx P w K mg base N n st d.f cd A outer s H1 E1) (upW fun c d _ H' => E c d H') k := ⟨c.room, c.gd, c.tk.imp fun c0 d0 σ0 H0 ⟨H2, x2, q⟩ => c.wu _ _ _ _ _ (hW _ _ _ _ q) x2, fun c d σ H H' ⟨H2, x2, q⟩ x => ⟨H2, x2.trans x, q⟩⟩
      exact ((hb cd A outer s H1 E1).run c2 o h.2).le rfn_ends
  · exact absurd rfl z
end
/-- a statement that is never reached -/
def zNo : RS := fun _ _ _ _ => False
theorem z_no {X : Cx} {j : Nat} {st : Stmt} : SS X j zNo st := ⟨fun _ _ _ _ _ q => q.elim⟩
/-! ## what queues compute -/
def wkF : Int → List Int → Int
  | f, [] => f
  | f, v :: r => wkF (if precB f v = true then v else f) r
def wk : List Int → Int
  | [] => 0
  | x :: r => wkF x r
theorem wkF_mem : ∀ (r : List Int) (f : Int), wkF f r = f ∨ wkF f r ∈ r
  | [], f => .inl rfl
  | v :: r, f => by
    show wkF (if precB f v = true then v else f) r = f ∨ wkF (if precB f v = true then v else f) r ∈ v :: r
    by_cases h : precB f v = true
    · rw [if_pos h]
      rcases wkF_mem r v with e | e
      · rw [e]; exact .inr (List.mem_cons_self ..)
      · exact .inr (List.mem_cons_of_mem _ e)
    · rw [if_neg h]
      rcases wkF_mem r f with e | e
      · exact .inl e
      · exact .inr (List.mem_cons_of_mem _ e)
theorem wk_mem {xs : List Int} (h : xs ≠ []) : wk xs ∈ xs := by
  cases xs with
  | nil => exact absurd rfl h
  | cons x r =>
    rcases wkF_mem r x with e | e
    · show wkF x r ∈ x :: r
      rw [e]; exact List.mem_cons_self ..
    · exact List.mem_cons_of_mem _ e
theorem wkF_step (xs : List Int) (f : Int) (i : Nat) (v : Int) (h : xs[i]? = some v) : wkF f (xs.take (i + 1)) = (if precB (wkF f (xs.take i)) v = true then v else wkF f (xs.take i)) := by
  induction xs generalizing f i with
  | nil => simp at h
  | cons x r ih =>
    cases i with
    | zero =>
      simp only [List.getElem?_cons_zero, Option.some.injEq] at h
      subst h
      rfl
    | succ i =>
      rw [List.take_succ_cons, List.take_succ_cons]
      exact ih _ _ (by simpa using h)
def dropW : Nat → List Int → List Int
  | 0, xs => xs
  | n + 1, xs => dropW n (xs.erase (wk xs))
theorem dropW_sub : ∀ (n : Nat) (xs : List Int) (v : Int), v ∈ dropW n xs → v ∈ xs
  | 0, _, _, h => h
  | n + 1, xs, v, h => List.mem_of_mem_erase (dropW_sub n _ v h)
theorem dropW_len : ∀ (n : Nat) (xs : List Int), n ≤ xs.length → (dropW n xs).length = xs.length - n
  | 0, _, _ => by simp [dropW]
  | n + 1, xs, h => by
    have ne : xs ≠ [] := fun e => by subst e; simp at h
    have el : (xs.erase (wk xs)).length = xs.length - 1 := List.length_erase_of_mem (wk_mem ne)
    show (dropW n (xs.erase (wk xs))).length = _
    rw [dropW_len n _ (by omega), el]
    omega
def insI (x : Int) : List Int → List Int
  | [] => [x]
  | y :: r => if x ≤ y then x :: y :: r else y :: insI x r
def srt : List Int → List Int
  | [] => []
  | x :: r => insI x (srt r)
theorem insI_perm (x : Int) : ∀ ys : List Int, (insI x ys).Perm (x :: ys)
  | [] => .refl _
  | y :: r => by
    unfold insI
    split
    · exact .refl _
    · exact ((insI_perm x r).cons y).trans (.swap x y r)
theorem srt_perm : ∀ xs : List Int, (srt xs).Perm xs
  | [] => .refl _
  | x :: r => (insI_perm x _).trans ((srt_perm r).cons x)
theorem insI_pw (x : Int) : ∀ ys : List Int, ys.Pairwise (· ≤ ·) → (insI x ys).Pairwise (· ≤ ·)
  | [], _ => by simp [insI]
  | y :: r, h => by
    have ⟨h1, h2⟩ := List.pairwise_cons.mp h
    unfold insI
    split
    · rename_i k
      refine List.pairwise_cons.mpr ⟨fun z hz => ?_, h⟩
      rcases List.mem_cons.mp hz with e | e
      · omega
      · have := h1 z e; omega
    · rename_i k
      refine List.pairwise_cons.mpr ⟨fun z hz => ?_, insI_pw x r h2⟩
      rcases List.mem_cons.mp ((insI_perm x r).mem_iff.mp hz) with e | e
      · omega
      · exact h1 z e
theorem srt_pw : ∀ xs : List Int, (srt xs).Pairwise (· ≤ ·)
  | [] => .nil
  | x :: r => insI_pw x _ (srt_pw r)
theorem sorted_eq : ∀ {xs ys : List Int}, xs.Perm ys → xs.Pairwise (· ≤ ·) → ys.Pairwise (· ≤ ·) → xs = ys
  | [], ys, p, _, _ => (List.nil_perm.mp p).symm ▸ rfl
  | x :: xs, [], p, _, _ => by have := p.length_eq; simp at this
  | x :: xs, y :: ys, p, hx, hy => by
    have ⟨a1, a2⟩ := List.pairwise_cons.mp hx
    have ⟨b1, b2⟩ := List.pairwise_cons.mp hy
    have e : x = y := by
      have m1 : x ∈ y :: ys := p.mem_iff.mp (List.mem_cons_self ..)
      have m2 : y ∈ x :: xs := p.mem_iff.mpr (List.mem_cons_self ..)
      rcases List.mem_cons.mp m1 with e | e
      · exact e
      rcases List.mem_cons.mp m2 with e2 | e2
      · exact e2.symm
      have := b1 x e
      have := a1 y e2
      omega
    subst e
    rw [sorted_eq ((List.perm_cons x).mp p) a2 b2]
theorem srt_eq {xs ns : List Int} (p : ns.Perm xs) (h : ns.Pairwise (· ≤ ·)) : ns = srt xs := sorted_eq (p.trans (srt_perm xs).symm) h (srt_pw xs)
def rgI (lo hi : Int) : List Int := (List.range (hi - lo + 1).toNat).map fun (i : Nat) => lo + (i : Int)
theorem rgI_mem {lo hi v : Int} : v ∈ rgI lo hi ↔ lo ≤ v ∧ v ≤ hi := by
  unfold rgI
  rw [List.mem_map]
  constructor
  · rintro ⟨i, hm, rfl⟩
    have := List.mem_range.mp hm
    omega
  · rintro ⟨h1, h2⟩
    exact ⟨(v - lo).toNat, List.mem_range.mpr (by omega), by omega⟩
theorem rgI_len (lo hi : Int) : (rgI lo hi).length = (hi - lo + 1).toNat := by simp [rgI]
/-- others, behind the strongest ones -/
def othR (w : List Int) (lo hi : Int) (cap : Nat) : List Int := w ++ strongL lo (hi - 1) (cap - 1)
def aftR (w : List Int) (lo hi : Int) (cap : Nat) : List Int :=
  if (w.length : Int) + hi - lo + 1 ≤ cap then w ++ rgI lo hi else srt (dropW ((othR w lo hi cap).length - (cap - 1)) (othR w lo hi cap)) ++ [hi]
theorem aftR_len {w : List Int} {lo hi : Int} {cap : Nat} (hc : 1 ≤ cap) (hw : w.length ≤ cap) : (aftR w lo hi cap).length ≤ cap := by
  unfold aftR
  split
  · rw [List.length_append, rgI_len]
    omega
  · rw [List.length_append, (srt_perm _).length_eq, dropW_len _ _ (by omega)]
    simp
    omega
/-- all of them lie between the bounds -/
def Btw (a b : Int) (xs : List Int) : Prop := ∀ v ∈ xs, a ≤ v ∧ v ≤ b
theorem Btw.mono {a b c d : Int} {xs : List Int} (h : Btw a b xs) (h1 : c ≤ a) (h2 : b ≤ d) : Btw c d xs := fun v hv => by have := h v hv; omega
theorem othR_btw {w : List Int} {lo hi : Int} {cap : Nat} (h1 : 1 ≤ hi) (hw : Btw 0 (hi - 1) w) : Btw 0 (hi - 1) (othR w lo hi cap) := fun v hv => by
  rcases List.mem_append.mp hv with h | h
  · exact hw v h
  · have := (strongL_ok (low := lo) (high := hi - 1) (n := cap - 1) (by omega)).2 v h
    omega
theorem aftR_btw {w : List Int} {lo hi : Int} {cap : Nat} (h0 : 0 ≤ lo) (hl : lo ≤ hi) (h1 : hi = 0 → (w.length : Int) + hi - lo + 1 ≤ cap) (hw : Btw 0 (lo - 1) w) : Btw 0 hi (aftR w lo hi cap) := fun v hv => by
  unfold aftR at hv
  split at hv
  · rcases List.mem_append.mp hv with h | h
    · have := hw v h; omega
    · have := rgI_mem.mp h; omega
  · rename_i k
    have h2 : 1 ≤ hi := by
      by_cases e : hi = 0
      · exact absurd (h1 e) k
      · omega
    rcases List.mem_append.mp hv with h | h
    · have := othR_btw (cap := cap) (lo := lo) h2 (hw.mono (Int.le_refl 0) (by omega)) v (dropW_sub _ _ _ ((srt_perm _).mem_iff.mp h))
      omega
    · simp at h; omega
theorem cutV_tail (xs : List V) : cutV xs (some 1) none = xs.drop 1 := by
  have e : HT.sIx xs.length 0 (some 1) = min 1 xs.length := HT.sIx_nat _ _ 1
  unfold cutV
  rw [e, HT.sIx_none]
  by_cases h : 1 ≤ xs.length
  · rw [Nat.min_eq_left h, List.take_of_length_le (by simp)]
  · have : xs = [] := List.length_eq_zero_iff.mp (by omega)
    subst this; rfl
theorem rgV_int (lo hi : Int) : rgV lo (hi + 1) = (rgI lo hi).map V.int := by
  unfold rgV rgI
  rw [List.map_map]
  have e : hi + 1 - lo = hi - lo + 1 := by omega
  rw [e]
  rfl
theorem erase_ix {xs : List Int} {k : Int} (h : k ∈ xs) : ∃ i, xs[i]? = some k ∧ (∀ m : Nat, m < i → xs[m]? ≠ some k) ∧ xs.eraseIdx i = xs.erase k := by
  induction xs with
  | nil => simp at h
  | cons x r ih =>
    by_cases e : x = k
    · subst e
      exact ⟨0, rfl, fun m hm => absurd hm (Nat.not_lt_zero _), by simp⟩
    · obtain ⟨i, h1, h2, h3⟩ := ih ((List.mem_cons.mp h).resolve_left fun z => e z.symm)
      refine ⟨i + 1, by simpa using h1, fun m hm => ?_, ?_⟩
      · cases m with
        | zero => simpa using e
        | succ m => simpa using h2 m (by omega)
      · rw [List.eraseIdx_cons_succ, h3, List.erase_cons_tail (by simpa using e)]
/-! ## queues in the heap -/
abbrev Big (v : Int) : Prop := v < 1000000000000000000000000000000000000000000000000000000000000000
def mx (i j : Int) : Int := if j > i then j else i
theorem mx_le (i j : Int) : i ≤ mx i j ∧ j ≤ mx i j := by unfold mx; split <;> omega
theorem inV_int (v : Int) (xs : List Int) : inV (.int v) (xs.map V.int) = decide (v ∈ xs) := by
  unfold inV
  rw [List.any_map]
  have e : (fun y => eqV y (V.int v)) ∘ V.int = fun y : Int => decide (y = v) := by
    funext y
    show eqV (V.int y) (V.int v) = decide (y = v)
    by_cases h : y = v
    · subst h; simp [eqV]
    · simp [eqV, h]
  rw [e]
  by_cases h : v ∈ xs
  · simp [h]
  · rw [decide_eq_false h]
    refine List.any_eq_false.mpr fun y hy => ?_
    simp
    exact fun e => h (e ▸ hy)
theorem flat_ints (xs : List Int) : (xs.map V.int).all flatV = true := by
  rw [List.all_map]
  exact List.all_eq_true.mpr fun _ _ => rfl
/-- outside L all stays -/
def Fr (L : List Addr) (H H' : Hp) : Prop := ∀ b o, b ∉ L → H b = some o → H' b = some o
theorem Fr.of_ex {L : List Addr} {H H' : Hp} (x : Ex H H') : Fr L H H' := fun b o _ h => x b o h
theorem Fr.trans {L : List Addr} {H H1 H2 : Hp} (a : Fr L H H1) (b : Fr L H1 H2) : Fr L H H2 := fun c o n h => b c o n (a c o n h)
theorem Fr.upd {L : List Addr} {H H1 : Hp} {p : Addr} {o : HO} (a : Fr L H H1) (h : p ∈ L ∨ H1 p = none) : Fr L H (L2.upd H1 p o) := fun b u n e => by
  have e1 := a b u n e
  by_cases z : b = p
  · subst z
    rcases h with h | h
    · exact absurd h n
    · rw [h] at e1; cases e1
  · rw [upd_ne z]; exact e1
structure Arr where
  mark : Int
  w : List Int
  low : Int
  high : Int
def aftA (w : List Int) (lo v : Int) (cap : Nat) : List Int := if v < lo then w else aftR w lo v cap
def ArAt (C : Addr) (H : Hp) (a wl : Addr) (r : Arr) : Prop := (∃ dx, H a = some (.ins C dx [("mark", .int r.mark), ("waited", .ref wl), ("low", .int r.low), ("high", .int r.high)])) ∧ H wl = some (.lst (r.w.map V.int))
structure WOk (w : List Int) (lo : Int) (cap : Nat) : Prop where
  c2 : 2 ≤ cap
  c9 : cap ≤ 9
  len : w.length ≤ cap
  l0 : 0 ≤ lo
  b : Btw 0 (lo - 1) w
theorem WOk.hi0 {w : List Int} {lo hi : Int} {cap : Nat} (h : WOk w lo cap) (hl : lo ≤ hi) (e : hi = 0) : (w.length : Int) + hi - lo + 1 ≤ cap := by
  have h2 := h.c2
  have h0 := h.l0
  have : w = [] := List.eq_nil_iff_forall_not_mem.mpr fun v hv => by have := h.b v hv; omega
  subst this
  simp
  omega
theorem aftA_len {w : List Int} {lo v : Int} {cap : Nat} (h : WOk w lo cap) : (aftA w lo v cap).length ≤ cap := by
  unfold aftA
  split
  · exact h.len
  · exact aftR_len (by have := h.c2; omega) h.len
theorem aftA_btw {w : List Int} {lo v b : Int} {cap : Nat} (h : WOk w lo cap) (hw : Btw 0 b w) (hb : b ≤ v) : Btw 0 v (aftA w lo v cap) := by
  unfold aftA
  split
  · exact hw.mono (Int.le_refl 0) hb
  · exact aftR_btw h.l0 (by omega) (h.hi0 (by omega)) h.b
/-- the bisection of a drop -/
def bisF (r : Arr) (cap : Nat) (v : Int) : Nat → Int → Int → Int × Int
  | 0, p, a => (p, a)
  | n + 1, p, a => if a - p > 1 then (if v ∈ aftA r.w r.low ((p + a) / 2) cap then bisF r cap v n ((p + a) / 2) a else bisF r cap v n p ((p + a) / 2)) else (p, a)
def bisR (r : Arr) (cap : Nat) (v : Int) : Int × Int := bisF r cap v (r.high - mx v (r.low - 1)).toNat (mx v (r.low - 1)) r.high
abbrev Drop := Int × Int × List Int
def dropA (r : Arr) (cap : Nat) (v : Int) : Drop := (r.mark, (bisR r cap v).2, (aftA r.w r.low (bisR r cap v).1 cap).filter fun o => !decide (o = v))
def holdsA (r : Arr) (v : Int) : Bool := decide (v ∈ r.w) || (decide (r.low ≤ v) && decide (v ≤ r.high))
def Drop.data (d : Drop) : PyData := .tuple [.int d.1, .int d.2.1, .tuple (d.2.2.map PyData.int)]
abbrev Call := Int × Option Int
structure Qst where
  size : Nat
  first : Int
  mark : Int
  latest : Option Int
  kept : List Int
  most : Int
  calls : List Call
def optV : Option Int → V
  | none => .non
  | some i => .int i
def callV : Call → List V
  | (l, some h) => [.int l, .int h]
  | (v, none) => [.int v]
def Qst.bound (q : Qst) : Int := match q.latest with
  | none => q.first - 1
  | some l => l
def Qst.lag (q : Qst) : Int := match q.latest with
  | none => 0
  | some l => mx 0 (l - q.mark)
def Qst.new (cap : Nat) (start : Int) : Qst := ⟨cap, start, start - 1, none, [], 0, []⟩
def Qst.arr (q : Qst) (lo hi : Int) : Arr := ⟨q.mark, q.kept, mx lo (q.mark + 1), hi⟩
def Qst.arrive (q : Qst) (lo hi : Int) : Qst :=
  { q with kept := aftA q.kept (mx lo (q.mark + 1)) hi q.size, latest := some hi, most := mx q.most (mx 0 (hi - q.mark)), calls := q.calls ++ [(lo, some hi)] }
def Qst.advance (q : Qst) (v : Int) : Qst := { q with kept := q.kept.filter fun o => decide (o > v), mark := v, calls := q.calls ++ [(v, none)] }
def Qst.gone (q : Qst) (v : Int) : List Int := q.kept.filter fun o => !decide (o ∈ (q.arrive v v).kept)
def Qst.pushed (q : Qst) (v : Int) : Option Int := (q.gone v).head?
def Qst.forecast (q : Qst) (n : Int) : List Int := aftA q.kept (mx (q.bound + 1) (q.mark + 1)) (q.bound + 1 + n - 1) q.size
def dropRun (size : Nat) (v : Int) : Int → List Int → List Call → Option Drop
  | _, _, [] => none
  | _, w, (x, none) :: r => dropRun size v x (w.filter fun o => decide (o > x)) r
  | m, w, (l, some h) :: r =>
    if (holdsA ⟨m, w, mx l (m + 1), h⟩ v && !decide (v ∈ aftA w (mx l (m + 1)) h size)) = true then some (dropA ⟨m, w, mx l (m + 1), h⟩ size v)
    else dropRun size v m (aftA w (mx l (m + 1)) h size) r
def Qst.dropOf (q : Qst) (v : Int) : Option Drop := dropRun q.size v (q.first - 1) [] q.calls
def Qst.arrived (q : Qst) (v : Int) : Bool := q.calls.any fun c => match c with
  | (l, some h) => decide (l ≤ v) && decide (v ≤ h)
  | (_, none) => false
def Qst.eqv (q r : Qst) : Bool := decide (q.size = r.size ∧ q.first = r.first ∧ q.mark = r.mark ∧ q.latest = r.latest ∧ q.kept = r.kept)
/-- the calls ascend, from the bound b on -/
def callsOk (b : Int) : List Call → Prop
  | [] => True
  | (l, some h) :: r => b < l ∧ l ≤ h ∧ Big h ∧ callsOk h r
  | (v, none) :: r => 0 ≤ v ∧ Big v ∧ callsOk b r
def endB (b : Int) : List Call → Int
  | [] => b
  | (_, some h) :: r => endB h r
  | (_, none) :: r => endB b r
theorem callsOk_app : ∀ (cs : List Call) (b : Int) (ds : List Call), callsOk b (cs ++ ds) ↔ callsOk b cs ∧ callsOk (endB b cs) ds
  | [], b, ds => by simp [callsOk, endB]
  | (l, some h) :: r, b, ds => by
    show b < l ∧ l ≤ h ∧ Big h ∧ callsOk h (r ++ ds) ↔ (b < l ∧ l ≤ h ∧ Big h ∧ callsOk h r) ∧ callsOk (endB h r) ds
    rw [callsOk_app r h ds]
    constructor
    · rintro ⟨a, b, c, d, e⟩; exact ⟨⟨a, b, c, d⟩, e⟩
    · rintro ⟨⟨a, b, c, d⟩, e⟩; exact ⟨a, b, c, d, e⟩
  | (v, none) :: r, b, ds => by
    show 0 ≤ v ∧ Big v ∧ callsOk b (r ++ ds) ↔ (0 ≤ v ∧ Big v ∧ callsOk b r) ∧ callsOk (endB b r) ds
    rw [callsOk_app r b ds]
    constructor
    · rintro ⟨a, b, d, e⟩; exact ⟨⟨a, b, d⟩, e⟩
    · rintro ⟨⟨a, b, d⟩, e⟩; exact ⟨a, b, d, e⟩
theorem endB_app : ∀ (cs : List Call) (b : Int) (ds : List Call), endB b (cs ++ ds) = endB (endB b cs) ds
  | [], b, ds => rfl
  | (l, some h) :: r, b, ds => endB_app r h ds
  | (v, none) :: r, b, ds => endB_app r b ds
structure QOk (q : Qst) : Prop where
  c2 : 2 ≤ q.size
  c9 : q.size ≤ 9
  f0 : 0 ≤ q.first
  f1 : Big q.first
  m0 : -1 ≤ q.mark
  m1 : Big q.mark
  b1 : Big q.bound
  b0 : q.first - 1 ≤ q.bound
  klen : q.kept.length ≤ q.size
  kb : Btw 0 q.bound q.kept
  cs : callsOk (q.first - 1) q.calls
  ce : endB (q.first - 1) q.calls = q.bound
  clen : q.calls.length ≤ 100000
theorem QOk.new {cap : Nat} {start : Int} (c2 : 2 ≤ cap) (c9 : cap ≤ 9) (s0 : 0 ≤ start) (s1 : Big start) : QOk (Qst.new cap start) :=
  ⟨c2, c9, s0, s1, by show -1 ≤ start - 1; omega, by show Big (start - 1); unfold Big at *; omega, by show Big (start - 1); unfold Big at *; omega, Int.le_refl _, Nat.zero_le _, (fun v hv => nomatch hv), trivial, rfl, Nat.zero_le _⟩
theorem QOk.wok {q : Qst} (k : QOk q) {lo : Int} (h : q.bound < lo) : WOk q.kept (mx lo (q.mark + 1)) q.size := by
  have h1 := mx_le lo (q.mark + 1)
  have h2 := k.b0
  have h3 := k.f0
  exact ⟨k.c2, k.c9, k.klen, by omega, k.kb.mono (Int.le_refl 0) (by omega)⟩
theorem QOk.arrive {q : Qst} (k : QOk q) {lo hi : Int} (h : q.bound < lo) (hl : lo ≤ hi) (hb : Big hi) (hc : q.calls.length < 100000) : QOk (q.arrive lo hi) := by
  have w := k.wok h
  have h2 := k.b0
  refine ⟨k.c2, k.c9, k.f0, k.f1, k.m0, k.m1, hb, by show q.first - 1 ≤ hi; omega, aftA_len w, aftA_btw w k.kb (by show q.bound ≤ hi; omega), ?_, ?_, ?_⟩
  · show callsOk (q.first - 1) (q.calls ++ [(lo, some hi)])
    rw [callsOk_app, k.ce]
    exact ⟨k.cs, h, hl, hb, trivial⟩
  · show endB (q.first - 1) (q.calls ++ [(lo, some hi)]) = hi
    rw [endB_app]
    rfl
  · show (q.calls ++ [(lo, some hi)]).length ≤ 100000
    simp
    omega
theorem QOk.advance {q : Qst} (k : QOk q) {v : Int} (h0 : 0 ≤ v) (hb : Big v) (hc : q.calls.length < 100000) : QOk (q.advance v) := by
  refine ⟨k.c2, k.c9, k.f0, k.f1, by show -1 ≤ v; omega, hb, k.b1, k.b0, ?_, fun x hx => k.kb x (List.mem_filter.mp hx).1, ?_, ?_, ?_⟩
  · exact Nat.le_trans (List.length_filter_le _ _) k.klen
  · show callsOk (q.first - 1) (q.calls ++ [(v, none)])
    rw [callsOk_app]
    exact ⟨k.cs, h0, hb, trivial⟩
  · show endB (q.first - 1) (q.calls ++ [(v, none)]) = _
    rw [endB_app]
    exact k.ce
  · show (q.calls ++ [(v, none)]).length ≤ 100000
    simp
    omega
def fsQ (q : Qst) (kl cl : Addr) : List (Str × V) := [("size", .int q.size), ("first", .int q.first), ("mark", .int q.mark), ("latest", optV q.latest), ("kept", .ref kl), ("most_lag", .int q.most), ("calls", .ref cl)]
def CallsAt (H : Hp) (cs : List Addr) (ks : List Call) : Prop := cs.length = ks.length ∧ ∀ (i : Nat) c k, cs[i]? = some c → ks[i]? = some k → H c = some (.tup (callV k))
structure QAt (C : Addr) (H : Hp) (a kl cl : Addr) (q : Qst) : Prop where
  ins : ∃ dx, H a = some (.ins C dx (fsQ q kl cl))
  kept : H kl = some (.lst (q.kept.map V.int))
  calls : ∃ cs : List Addr, H cl = some (.lst (cs.map V.ref)) ∧ CallsAt H cs q.calls
theorem CallsAt.fr {H H' : Hp} {L : List Addr} {cs : List Addr} {ks : List Call} (h : CallsAt H cs ks) (f : Fr L H H') (hL : ∀ b ∈ L, ∀ xs, H b ≠ some (.tup xs)) : CallsAt H' cs ks :=
  ⟨h.1, fun i c k e1 e2 => f _ _ (fun m => hL _ m _ (h.2 i c k e1 e2)) (h.2 i c k e1 e2)⟩
theorem QAt.fr {C : Addr} {H H' : Hp} {L : List Addr} {a kl cl : Addr} {q : Qst} (h : QAt C H a kl cl q) (f : Fr L H H') (n1 : a ∉ L) (n2 : kl ∉ L) (n3 : cl ∉ L) (hL : ∀ b ∈ L, ∀ xs, H b ≠ some (.tup xs)) : QAt C H' a kl cl q := by
  obtain ⟨⟨dx, h1⟩, h2, cs, h3, h4⟩ := h
  exact ⟨⟨dx, f _ _ n1 h1⟩, f _ _ n2 h2, cs, f _ _ n3 h3, h4.fr f hL⟩
theorem QAt.ex {C : Addr} {H H' : Hp} {a kl cl : Addr} {q : Qst} (h : QAt C H a kl cl q) (x : Ex H H') : QAt C H' a kl cl q := h.fr (L := []) (.of_ex x) (by simp) (by simp) (by simp) (fun _ m => by cases m)
theorem ne_kind {H : Hp} {a b : Addr} {o o' : HO} (h1 : H a = some o) (h2 : H b = some o') (ne : o ≠ o') : a ≠ b := fun e => by
  subst e
  rw [h1] at h2
  exact ne (Option.some.inj h2)
theorem QAt.set {C : Addr} {H : Hp} {a kl kl2 cl dx : Addr} {q q2 : Qst} {fs : List (Str × V)} (h : QAt C H a kl cl q) (hd : fs = fsQ q2 kl2 cl) (hk : H kl2 = some (.lst (q2.kept.map V.int))) (hc : q2.calls = q.calls) : QAt C (upd H a (.ins C dx fs)) a kl2 cl q2 := by
  obtain ⟨⟨dx0, h1⟩, h2, cs, h3, h4⟩ := h
  have n1 : kl2 ≠ a := ne_kind hk h1 (fun e => by cases e)
  have n2 : cl ≠ a := ne_kind h3 h1 (fun e => by cases e)
  refine ⟨⟨dx, by rw [upd_same, hd]⟩, by rw [upd_ne n1]; exact hk, cs, by rw [upd_ne n2]; exact h3, hc ▸ h4.fr (L := [a]) (.upd (.of_ex (Ex.refl _)) (.inl (by simp))) fun b hb xs e => ?_⟩
  simp at hb
  subst hb
  rw [h1] at e
  cases e
theorem QAt.call {C : Addr} {H : Hp} {a kl cl t : Addr} {q : Qst} {c : Call} (h : QAt C H a kl cl q) (ht : H t = some (.tup (callV c))) (nk : kl ≠ cl) (cs : List Addr) (h3 : H cl = some (.lst (cs.map V.ref))) (h4 : CallsAt H cs q.calls) : QAt C (upd H cl (.lst (cs.map V.ref ++ [.ref t]))) a kl cl { q with calls := q.calls ++ [c] } := by
  obtain ⟨⟨dx, h1⟩, h2, _⟩ := h
  have n1 : a ≠ cl := ne_kind h1 h3 (fun e => by cases e)
  have n2 : t ≠ cl := ne_kind ht h3 (fun e => by cases e)
  refine ⟨⟨dx, by rw [upd_ne n1]; exact h1⟩, by rw [upd_ne nk]; exact h2, cs ++ [t], by rw [upd_same]; simp, by simp [h4.1], fun i x k e1 e2 => ?_⟩
  by_cases hi : i < cs.length
  · rw [List.getElem?_append_left hi] at e1
    rw [List.getElem?_append_left (by rw [← h4.1]; exact hi)] at e2
    have e := h4.2 i x k e1 e2
    rw [upd_ne (ne_kind e h3 (fun e => by cases e))]
    exact e
  · have hi2 : i = cs.length := by
      have := (List.getElem?_eq_some_iff.mp e1).1
      simp at this
      omega
    subst hi2
    rw [List.getElem?_append_right (Nat.le_refl _), Nat.sub_self] at e1
    rw [List.getElem?_append_right (by rw [h4.1]; exact Nat.le_refl _), h4.1, Nat.sub_self] at e2
    simp at e1 e2
    subst e1 e2
    rw [upd_ne n2]
    exact ht
/-! ## comprehensions by the turn's number, and those that make things -/
def del (H : Hp) (d : Addr) : Hp := fun b => if b = d then none else H b
theorem del_same {H : Hp} {d : Addr} : del H d d = none := if_pos rfl
theorem del_ne {H : Hp} {d b : Addr} (h : b ≠ d) : del H d b = H b := if_neg h
section
variable {n m : Nat} {G : Hp → Prop} {Y : Nat → Hp → VK → Prop} {g : RG} {elt : RX} {vs : List Nat} {σ : St} {H : Hp} {Q : VK} {xs : List V} {lo : Int}
theorem lc_fi {tc : RT} (f : Nat → Bool) (gx : Nat → V) (hn : xs.length < 100000) (hG : G H)
    (turn : ∀ (i : Nat) x d acc (R : Bool → Hp → Prop), xs[i]? = some x → H d = none → (∀ H5, Ex (upd H d (.lst acc)) H5 → R (f i) H5) → tc (put (wipe σ [m]) m x) (upd H d (.lst acc)) R noW)
    (item : ∀ (i : Nat) x d acc H4 (R : VK), xs[i]? = some x → f i = true → H d = none → Ex (upd H d (.lst acc)) H4 → (∀ H5, Ex (upd H d (.lst acc)) H5 → R (gx i) H5) → elt (put (wipe σ [m]) m x) H4 R noW)
    (done : ∀ q, H q = none → Q (.ref q) (upd H q (.lst (((List.range xs.length).filter f).map gx)))) : LcB xs.length G (yAt xs) (gName m) tc elt [m] σ H Q :=
  lcB (fun i acc H' => H' = H ∧ acc = ((List.range i).filter f).map gx) ⟨rfl, by simp⟩ (fun i acc H' hi p => by
    obtain ⟨rfl, rfl⟩ := p
    refine ⟨hG, ?_⟩
    have h1 := List.length_filter_le f (List.range i)
    rw [List.length_range] at h1
    rw [List.length_map]
    omega) (fun i acc H' d hi p nd => by
    obtain ⟨rfl, rfl⟩ := p
    intro x hx
    have ht : List.range (i + 1) = List.range i ++ [i] := List.range_succ
    refine ⟨wipe_put, turn i x d _ _ hx nd fun H5 x5 => ⟨fun hf => item i x d _ _ _ hx hf nd x5 fun H6 x6 => ⟨H', nd, x6, rfl, ?_⟩, fun hf => ⟨H', nd, x5, rfl, ?_⟩⟩⟩
    · rw [ht, List.filter_append, List.map_append]
      simp [List.filter, hf]
    · rw [ht, List.filter_append]
      simp [List.filter, hf]) fun acc H' q p nq => by
    obtain ⟨rfl, rfl⟩ := p
    exact done q nq
/-- the items may be new things: P tells an item in the heap -/
theorem lc_grow (P : Nat → V → Hp → Prop) (mono : ∀ i y H1 H2, Ex H1 H2 → P i y H1 → P i y H2) (cut : ∀ i y H1 d zs, H1 d = some (.lst zs) → P i y H1 → P i y (del H1 d)) (hn : xs.length < 100000) (hG : ∀ H', Ex H H' → G H')
    (turn : ∀ (i : Nat) x d acc H' (R : VK), xs[i]? = some x → Ex H H' → H' d = none → (∀ y H5, Ex (upd H' d (.lst acc)) H5 → P i y H5 → R y H5) → elt (put (wipe σ [m]) m x) (upd H' d (.lst acc)) R noW)
    (done : ∀ ys q H', Ex H H' → ys.length = xs.length → (∀ i y, ys[i]? = some y → P i y H') → H' q = none → Q (.ref q) (upd H' q (.lst ys))) : LcB xs.length G (yAt xs) (gName m) tY elt [m] σ H Q :=
  lcB (fun i acc H' => Ex H H' ∧ acc.length = i ∧ ∀ k y, acc[k]? = some y → P k y H') ⟨Ex.refl _, rfl, fun _ _ z => by simp at z⟩ (fun i acc H' hi p => ⟨hG _ p.1, by have := p.2.1; omega⟩) (fun i acc H' d hi p nd => by
    obtain ⟨x1, hl, hp⟩ := p
    intro x hx
    refine ⟨wipe_put, fun _ => turn i x d _ _ _ hx x1 nd fun y H5 x5 h5 => ?_, fun z => nomatch z⟩
    have e5 : H5 d = some (.lst acc) := x5 _ _ upd_same
    have x6 : Ex H' (del H5 d) := fun b o e => by
      have nb : b ≠ d := ne_of_none e nd
      rw [del_ne nb]
      exact x5 _ _ (by rw [upd_ne nb]; exact e)
    refine ⟨del H5 d, del_same, fun b o e => ?_, x1.trans x6, by simp [hl], fun k y' hk => ?_⟩
    · by_cases z : b = d
      · subst z; rw [upd_same] at e; cases e; exact e5
      · rw [upd_ne z, del_ne z] at e; exact e
    by_cases hk2 : k < acc.length
    · exact mono _ _ _ _ x6 (hp k y' (by rwa [List.getElem?_append_left hk2] at hk))
    · rw [List.getElem?_append_right (by omega)] at hk
      have : k - acc.length = 0 := by
        cases e : k - acc.length with
        | zero => rfl
        | succ j => rw [e] at hk; simp at hk
      have e : k = i := by omega
      subst e
      rw [this] at hk
      simp at hk
      subst hk
      exact cut _ _ _ _ _ e5 h5) fun acc H' q p nq => by
    obtain ⟨x1, hl, hp⟩ := p
    exact done acc q H' x1 hl hp nq
end
/-! ## their data -/
theorem lay_ints : ∀ xs : List Int, PyData.canLayAll0 (xs.map PyData.int) = true
  | [] => rfl
  | x :: r => by
    show (PyData.canLay0 (.int x) && PyData.canLayAll0 (r.map PyData.int)) = true
    rw [lay_ints r]
    rfl
theorem shaped_li (xs : List Int) : SeqAt.shaped (.list (xs.map PyData.int)) = true := by
  simp [SeqAt.shaped, PyData.canLay0, lay_ints, PyData.depth, depth_ints]
theorem eqv_ints : ∀ xs ys : List Int, PyData.eqvAll (xs.map PyData.int) (ys.map PyData.int) = decide (xs = ys)
  | [], [] => rfl
  | [], y :: ys => rfl
  | x :: xs, [] => rfl
  | x :: xs, y :: ys => by
    show (PyData.eqv (.int x) (.int y) && PyData.eqvAll (xs.map PyData.int) (ys.map PyData.int)) = _
    rw [eqv_ints xs ys]
    show ((x == y) && decide (xs = ys)) = _
    by_cases h1 : x = y <;> by_cases h2 : xs = ys <;> simp [h1, h2]
def optD : Option Int → PyData
  | none => .none
  | some i => .int i
theorem dp_opt {K : PySem.W.Frag} {H : Hp} (o : Option Int) : Dp K H (optV o) (optD o) := by
  cases o with
  | none => exact .non
  | some i => exact .int i
theorem eqv_opt (a b : Option Int) : PyData.eqv (optD a) (optD b) = decide (a = b) := by
  cases a <;> cases b <;> first | rfl | (simp [optD, PyData.eqv]; done) | (rename_i x y; show (x == y) = _; by_cases h : x = y <;> simp [h])
def Qst.data (q : Qst) : PyData := .tuple [.int q.size, .int q.first, .int q.mark, optD q.latest, .list (q.kept.map PyData.int)]
theorem Qst.shaped (q : Qst) : SeqAt.shaped q.data = true := by
  cases h : q.latest <;> simp [SeqAt.shaped, Qst.data, h, optD, PyData.canLay0, PyData.canLayAll0, lay_ints, PyData.depth, PyData.depthAll, depth_ints]
theorem Qst.eqv_data (q r : Qst) : PyData.eqv q.data r.data = q.eqv r := by
  show ((((q.size : Int)) == ((r.size : Int))) && (q.first == r.first && (q.mark == r.mark && (PyData.eqv (optD q.latest) (optD r.latest) && (PyData.eqvAll (q.kept.map PyData.int) (r.kept.map PyData.int) && true))))) = q.eqv r
  rw [eqv_opt, eqv_ints]
  unfold Qst.eqv
  by_cases h1 : q.size = r.size <;> by_cases h2 : q.first = r.first <;> by_cases h3 : q.mark = r.mark <;> by_cases h4 : q.latest = r.latest <;> by_cases h5 : q.kept = r.kept <;> first | (simp [h1, h2, h3, h4, h5]; done) | (simp [h1, h2, h3, h4, h5]; omega)
def callT : Option Call → Bool
  | some (_, some _) => true
  | _ => false
def callB (v : Int) : Option Call → Bool
  | some (l, some h) => decide (l ≤ v) && decide (v ≤ h)
  | _ => false
theorem any_calls (v : Int) (cs : List Call) : (((List.range cs.length).filter fun i => callT cs[i]?).map fun i => callB v cs[i]?).any id = cs.any fun c => match c with
    | (l, some h) => decide (l ≤ v) && decide (v ≤ h)
    | (_, none) => false := by
  rw [Bool.eq_iff_iff, List.any_eq_true, List.any_eq_true]
  constructor
  · rintro ⟨b, hb, e⟩
    obtain ⟨i, hi, rfl⟩ := List.mem_map.mp hb
    have hm := List.mem_filter.mp hi
    have hlt := List.mem_range.mp hm.1
    rw [List.getElem?_eq_getElem hlt] at e
    refine ⟨cs[i], List.getElem_mem hlt, ?_⟩
    generalize cs[i] = c at e
    obtain ⟨l, o⟩ := c
    cases o with
    | none => cases e
    | some h => exact e
  · rintro ⟨c, hc, e⟩
    obtain ⟨i, hi, rfl⟩ := List.getElem_of_mem hc
    refine ⟨callB v cs[i]?, List.mem_map.mpr ⟨i, List.mem_filter.mpr ⟨List.mem_range.mpr hi, ?_⟩, rfl⟩, ?_⟩
    · rw [List.getElem?_eq_getElem hi]
      generalize cs[i] = c at e
      obtain ⟨l, o⟩ := c
      cases o with
      | none => cases e
      | some h => rfl
    · rw [List.getElem?_eq_getElem hi]
      generalize cs[i] = c at e
      obtain ⟨l, o⟩ := c
      cases o with
      | none => cases e
      | some h => exact e
/-! ## the order of strength -/
theorem prec_iff {v u : Int} (hv : 0 ≤ v) (hu : 0 ≤ u) : precB v u = true ↔ (v = 0 ∧ 0 < u) ∨ (0 < v ∧ 0 < u ∧ (lowb u < lowb v ∨ (lowb v = lowb u ∧ u < v))) := by
  unfold precB
  by_cases h1 : v = 0
  · subst h1
    simp
  · by_cases h2 : u = 0
    · subst h2
      simp [h1]
    · rw [if_neg (by simp [h1, h2])]
      by_cases h3 : lowb v = lowb u
      · rw [if_pos h3, decide_eq_true_eq]
        omega
      · rw [if_neg h3, decide_eq_true_eq]
        omega
theorem prec_irr {v : Int} (hv : 0 ≤ v) : precB v v = false := by
  cases h : precB v v with
  | false => rfl
  | true => have := (prec_iff hv hv).mp h; omega
theorem precB_tr {a b c : Int} (ha : 0 ≤ a) (hb : 0 ≤ b) (hc : 0 ≤ c) (h1 : precB a b = true) (h2 : precB b c = true) : precB a c = true := by
  rw [prec_iff ha hb] at h1
  rw [prec_iff hb hc] at h2
  rw [prec_iff ha hc]
  omega
theorem prec_tri {a b : Int} (ha : 0 ≤ a) (hb : 0 ≤ b) (ne : a ≠ b) : precB a b = true ∨ precB b a = true := by
  rw [prec_iff ha hb, prec_iff hb ha]
  omega
theorem prec_asym {a b : Int} (ha : 0 ≤ a) (hb : 0 ≤ b) (h1 : precB a b = true) (h2 : precB b a = true) : False := by
  have := precB_tr ha hb ha h1 h2
  rw [prec_irr ha] at this
  cases this
/-! ## odd multiples, strongest -/
theorem oddFrom_odd {low p : Int} (hp : 0 < p) : ∀ (c : Nat) (last : Int), last % 2 = 1 →
    (∀ v ∈ oddFrom low p c last, ∃ m, v = m * p ∧ m % 2 = 1 ∧ 0 < m ∧ m ≤ last ∧ low ≤ v) ∧ (oddFrom low p c last).Pairwise (fun a b => b < a) ∧
    (∀ m, m % 2 = 1 → 0 < m → m ≤ last → low ≤ m * p → m * p ∉ oddFrom low p c last → (oddFrom low p c last).length = c ∧ ∀ v ∈ oddFrom low p c last, m * p < v)
  | 0, last, _ => ⟨(fun v h => nomatch h), .nil, fun m _ _ _ _ _ => ⟨rfl, (fun v h => nomatch h)⟩⟩
  | c + 1, last, ho => by
    obtain ⟨i1, i2, i3⟩ := oddFrom_odd (low := low) hp c (last - 2) (by omega)
    unfold oddFrom
    by_cases hc : (decide (last > 0) && decide (last * p ≥ low)) = true
    · rw [if_pos hc]
      simp only [Bool.and_eq_true, decide_eq_true_eq] at hc
      have lt : ∀ m, m ≤ last - 2 → m * p < last * p := fun m hm => Int.mul_lt_mul_of_pos_right (by omega) hp
      refine ⟨fun v hv => ?_, List.pairwise_cons.mpr ⟨fun v hv => ?_, i2⟩, fun m h1 h2 h3 h4 h5 => ?_⟩
      · rcases List.mem_cons.mp hv with rfl | hv
        · exact ⟨last, rfl, ho, hc.1, Int.le_refl _, hc.2⟩
        · obtain ⟨m, e, a, b, c, d⟩ := i1 v hv
          exact ⟨m, e, a, b, by omega, d⟩
      · obtain ⟨m, rfl, a, b, c, d⟩ := i1 v hv
        exact lt m c
      · have ne : m ≠ last := fun e => h5 (by rw [e]; exact List.mem_cons_self ..)
        have hm : m ≤ last - 2 := by omega
        obtain ⟨j1, j2⟩ := i3 m h1 h2 hm h4 (fun z => h5 (List.mem_cons_of_mem _ z))
        refine ⟨by rw [List.length_cons, j1], fun v hv => ?_⟩
        rcases List.mem_cons.mp hv with rfl | hv
        · exact lt m hm
        · exact j2 v hv
    · rw [if_neg hc]
      refine ⟨(fun v h => nomatch h), .nil, fun m h1 h2 h3 h4 _ => ?_⟩
      exfalso
      apply hc
      simp only [Bool.and_eq_true, decide_eq_true_eq]
      have : m * p ≤ last * p := Int.mul_le_mul_of_nonneg_right h3 (by omega)
      omega
theorem lastOf_odd {hi p : Int} : lastOf hi p % 2 = 1 := by
  unfold lastOf
  by_cases h : hi / p % 2 = 0
  · rw [if_pos (decide_eq_true h)]; omega
  · rw [if_neg (by rw [decide_eq_true_eq]; exact h)]; omega
theorem le_lastOf {hi p m : Int} (hp : 0 < p) (hm : m % 2 = 1) : m ≤ lastOf hi p ↔ m * p ≤ hi := by
  rw [← Int.le_ediv_iff_mul_le hp]
  unfold lastOf
  by_cases h : hi / p % 2 = 0
  · rw [if_pos (decide_eq_true h)]; omega
  · rw [if_neg (by rw [decide_eq_true_eq]; exact h)]
theorem lowb_mul {m : Int} {k : Nat} (hm : m % 2 = 1) (h0 : 0 < m) : lowb (m * 2 ^ k) = 2 ^ k := by
  have hp : (0 : Int) < 2 ^ k := Int.pow_pos (by decide)
  refine lowb_is (Int.mul_pos h0 hp) (Int.mul_emod_left _ _) ?_
  rw [Int.mul_comm 2, Int.mul_comm m, Int.mul_emod_mul_of_pos _ _ hp, hm, Int.mul_one]
  omega
theorem of_lowb {v : Int} {k : Nat} (h0 : 0 < v) (h : lowb v = 2 ^ k) : ∃ m, v = m * 2 ^ k ∧ m % 2 = 1 ∧ 0 < m := by
  have hp : (0 : Int) < 2 ^ k := Int.pow_pos (by decide)
  obtain ⟨j, e1, e2, e3⟩ := lowb_two h0
  rw [← e1, h] at e2 e3
  have e4 : v = v / 2 ^ k * 2 ^ k := (Int.ediv_mul_cancel_of_emod_eq_zero e2).symm
  refine ⟨v / 2 ^ k, e4, ?_, ?_⟩
  · rw [e4, Int.mul_comm 2, Int.mul_comm (v / 2 ^ k), Int.mul_emod_mul_of_pos _ _ hp] at e3
    have : v / 2 ^ k % 2 ≠ 0 := fun z => e3 (by rw [z, Int.mul_zero])
    omega
  · exact Int.ediv_pos_of_pos_of_dvd h0 (by omega) (Int.dvd_of_emod_eq_zero e2)
theorem lowb_cases {v : Int} {k : Nat} (h0 : 0 < v) (h : 2 ^ k ≤ lowb v) : lowb v = 2 ^ k ∨ 2 ^ (k + 1) ≤ lowb v := by
  obtain ⟨j, e, _⟩ := lowb_two h0
  rw [e] at h ⊢
  by_cases hj : j ≤ k
  · have : (2 : Int) ^ j ≤ 2 ^ k := pow_mono hj
    exact .inl (by omega)
  · exact .inr (pow_mono (by omega))
/-- the first of S in the order, at most n of them -/
structure Top (S : Int → Prop) (n : Nat) (f : List Int) : Prop where
  len : f.length ≤ n
  pw : f.Pairwise (fun a b => precB a b = true)
  sub : ∀ v ∈ f, S v
  out : ∀ u, S u → u ∉ f → f.length = n ∧ ∀ v ∈ f, precB v u = true
structure StInv (lo hi : Int) (n k : Nat) (f : List Int) : Prop where
  len : f.length ≤ n
  pw : f.Pairwise (fun a b => precB a b = true)
  sub : ∀ v ∈ f, (lo ≤ v ∧ v ≤ hi ∧ 0 ≤ v) ∧ (v = 0 ∨ 2 ^ k ≤ lowb v)
  part : f.length < n → ∀ u, lo ≤ u → u ≤ hi → 0 ≤ u → (u = 0 ∨ 2 ^ k ≤ lowb u) → u ∈ f
  full : f.length = n → ∀ u, lo ≤ u → u ≤ hi → 0 ≤ u → u ∉ f → ∀ v ∈ f, precB v u = true
theorem stInv_step {lo hi : Int} {n k : Nat} {f : List Int} (h0 : 0 ≤ lo) (hl : f.length < n) (I : StInv lo hi n (k + 1) f) : StInv lo hi n k (f ++ oddFrom lo (2 ^ k) (n - f.length) (lastOf hi (2 ^ k))) := by
  have hp : (0 : Int) < 2 ^ k := Int.pow_pos (by decide)
  have e2 : (2 : Int) ^ (k + 1) = 2 ^ k * 2 := Int.pow_succ 2 k
  obtain ⟨i1, i2, i3⟩ := oddFrom_odd (low := lo) hp (n - f.length) (lastOf hi (2 ^ k)) lastOf_odd
  have ol := oddFrom_len (low := lo) (power := 2 ^ k) (n - f.length) (lastOf hi (2 ^ k))
  generalize oddFrom lo (2 ^ k) (n - f.length) (lastOf hi (2 ^ k)) = g at i1 i2 i3 ol
  have gm : ∀ v ∈ g, lo ≤ v ∧ v ≤ hi ∧ 0 < v ∧ lowb v = 2 ^ k := fun v hv => by
    obtain ⟨m, rfl, a, b, c, d⟩ := i1 v hv
    exact ⟨d, (le_lastOf hp a).mp c, Int.mul_pos b hp, lowb_mul a b⟩
  have fg : ∀ v ∈ f, ∀ u, 0 < u → lowb u = 2 ^ k → precB v u = true := fun v hv u hu he => by
    obtain ⟨⟨a, b, c⟩, d⟩ := I.sub v hv
    rw [prec_iff c (by omega)]
    rcases d with d | d
    · exact .inl ⟨d, hu⟩
    · by_cases z : v = 0
      · exact .inl ⟨z, hu⟩
      · exact .inr ⟨by omega, hu, .inl (by omega)⟩
  refine ⟨by rw [List.length_append]; omega, List.pairwise_append.mpr ⟨I.pw, ?_, fun a ha b hb => fg a ha b (gm b hb).2.2.1 (gm b hb).2.2.2⟩, fun v hv => ?_, fun hlen u a b c d => ?_, fun hlen u a b c d v hv => ?_⟩
  · refine i2.imp_of_mem fun {a b} ha hb hab => ?_
    have h1 := gm a ha
    have h2 := gm b hb
    rw [prec_iff (by omega) (by omega)]
    exact .inr ⟨h1.2.2.1, h2.2.2.1, .inr ⟨by rw [h1.2.2.2, h2.2.2.2], hab⟩⟩
  · rcases List.mem_append.mp hv with hv | hv
    · obtain ⟨a, b⟩ := I.sub v hv
      exact ⟨a, b.imp_right fun z => by omega⟩
    · have h1 := gm v hv
      exact ⟨⟨h1.1, h1.2.1, by omega⟩, .inr (by rw [h1.2.2.2]; exact Int.le_refl _)⟩
  · rw [List.length_append] at hlen
    by_cases z : u = 0
    · exact List.mem_append_left _ (I.part hl u a b c (.inl z))
    · have d := d.resolve_left z
      rcases lowb_cases (by omega) d with e | e
      · obtain ⟨m, rfl, hm, m0⟩ := of_lowb (by omega) e
        refine List.mem_append_right _ (Classical.byContradiction fun nm => ?_)
        have := (i3 m hm m0 ((le_lastOf hp hm).mpr b) a nm).1
        omega
      · exact List.mem_append_left _ (I.part hl u a b c (.inr e))
  · have nf : u ∉ f := fun z => d (List.mem_append_left _ z)
    have ng : u ∉ g := fun z => d (List.mem_append_right _ z)
    have u0 : u ≠ 0 := fun z => nf (I.part hl u a b c (.inl z))
    have ul : ¬ 2 ^ (k + 1) ≤ lowb u := fun z => nf (I.part hl u a b c (.inr z))
    rcases List.mem_append.mp hv with hv | hv
    · obtain ⟨⟨v1, v2, v3⟩, v4⟩ := I.sub v hv
      rw [prec_iff v3 c]
      rcases v4 with v4 | v4
      · exact .inl ⟨v4, by omega⟩
      · by_cases z : v = 0
        · exact .inl ⟨z, by omega⟩
        · exact .inr ⟨by omega, by omega, .inl (by omega)⟩
    · have h1 := gm v hv
      rw [prec_iff (by omega) c]
      refine .inr ⟨h1.2.2.1, by omega, ?_⟩
      by_cases z : 2 ^ k ≤ lowb u
      · rcases lowb_cases (by omega) z with e | e
        · obtain ⟨m, rfl, hm, m0⟩ := of_lowb (by omega) e
          exact .inr ⟨by rw [h1.2.2.2, e], (i3 m hm m0 ((le_lastOf hp hm).mpr b) a ng).2 v hv⟩
        · exact absurd e ul
      · exact .inl (by omega)
theorem strL_inv {lo hi : Int} {n : Nat} (h0 : 0 ≤ lo) : ∀ (k : Nat) (f : List Int), StInv lo hi n k f → Top (fun u => lo ≤ u ∧ u ≤ hi ∧ 0 ≤ u) n (strL lo hi n k f)
  | 0, f, I => ⟨I.len, I.pw, fun v hv => (I.sub v hv).1, fun u hu nu => by
      by_cases hl : f.length < n
      · refine absurd (I.part hl u hu.1 hu.2.1 hu.2.2 ?_) nu
        by_cases z : u = 0
        · exact .inl z
        · exact .inr (by have := lowb_pos (v := u) (by omega); simpa using this)
      · have := I.len
        have e : f.length = n := by omega
        exact ⟨e, I.full e u hu.1 hu.2.1 hu.2.2 nu⟩⟩
  | k + 1, f, I => by
    unfold strL
    by_cases hl : f.length < n
    · rw [if_pos hl]
      exact strL_inv h0 k _ (stInv_step h0 hl I)
    · rw [if_neg hl]
      have := I.len
      exact ⟨I.len, I.pw, fun v hv => (I.sub v hv).1, fun u hu nu => ⟨by omega, I.full (by omega) u hu.1 hu.2.1 hu.2.2 nu⟩⟩
theorem lt_bits {u : Int} (h : 0 ≤ u) : u < 2 ^ Builtin.Int.intBits u := by
  have := PyProof.Rows.natAbs_lt_pow_bits u
  have e : ((2 ^ Builtin.Int.intBits u : Nat) : Int) = 2 ^ Builtin.Int.intBits u := by simp [Int.natCast_pow]
  omega
theorem strongL_top {lo hi : Int} {n : Nat} (h0 : 0 ≤ lo) (h1 : 0 ≤ hi) : Top (fun u => lo ≤ u ∧ u ≤ hi ∧ 0 ≤ u) n (strongL lo hi n) := by
  unfold strongL
  refine strL_inv h0 _ _ ?_
  have no : ∀ u, 0 < u → u ≤ hi → ¬ (2 : Int) ^ (Builtin.Int.intBits hi + 1) ≤ lowb u := fun u hu hl z => by
    have := lt_bits h1
    have := (lowb_le hu).2
    have e2 : (2 : Int) ^ (Builtin.Int.intBits hi + 1) = 2 ^ Builtin.Int.intBits hi * 2 := Int.pow_succ 2 _
    omega
  by_cases z : (decide (lo = 0) && decide ((n : Int) > 0)) = true
  · rw [if_pos z]
    simp only [Bool.and_eq_true, decide_eq_true_eq] at z
    refine ⟨by simp; omega, by simp, fun v hv => ?_, fun hl u a b c d => ?_, fun hl u a b c d v hv => ?_⟩
    · simp at hv; subst hv; exact ⟨⟨by omega, h1, Int.le_refl _⟩, .inl rfl⟩
    · rcases d with d | d
      · simp [d]
      · by_cases z0 : u = 0
        · simp [z0]
        · exact absurd d (no u (by omega) b)
    · simp at hv d; subst hv
      rw [prec_iff (Int.le_refl _) c]
      exact .inl ⟨rfl, by omega⟩
  · rw [if_neg z]
    simp only [Bool.and_eq_true, decide_eq_true_eq] at z
    refine ⟨Nat.zero_le _, .nil, (fun v hv => nomatch hv), fun hl u a b c d => ?_, (fun hl u a b c d v hv => nomatch hv)⟩
    exfalso
    rcases d with d | d
    · exact z ⟨by omega, by simpa using hl⟩
    · by_cases z0 : u = 0
      · exact z ⟨by omega, by simpa using hl⟩
      · exact no u (by omega) b d
/-! ## the weakest ones go -/
theorem wkF_weak : ∀ (r : List Int) (f : Int), 0 ≤ f → (∀ v ∈ r, 0 ≤ v) → ∀ v ∈ f :: r, v = wkF f r ∨ precB v (wkF f r) = true
  | [], f, _, _, v, h => by simp at h; exact .inl h
  | x :: r, f, hf, hr, v, h => by
    have hx : 0 ≤ x := hr x (List.mem_cons_self ..)
    have hr' : ∀ v ∈ r, 0 ≤ v := fun v hv => hr v (List.mem_cons_of_mem _ hv)
    show v = wkF (if precB f x = true then x else f) r ∨ precB v (wkF (if precB f x = true then x else f) r) = true
    by_cases c : precB f x = true
    · rw [if_pos c]
      have ih := wkF_weak r x hx hr'
      have w0 : 0 ≤ wkF x r := by
        rcases wkF_mem r x with e | e
        · rw [e]; exact hx
        · exact hr' _ e
      rcases List.mem_cons.mp h with rfl | h
      · rcases ih x (List.mem_cons_self ..) with e | e
        · exact .inr (e ▸ c)
        · exact .inr (precB_tr hf hx w0 c e)
      · exact ih v h
    · rw [if_neg c]
      have ih := wkF_weak r f hf hr'
      have w0 : 0 ≤ wkF f r := by
        rcases wkF_mem r f with e | e
        · rw [e]; exact hf
        · exact hr' _ e
      rcases List.mem_cons.mp h with rfl | h
      · exact ih v (List.mem_cons_self ..)
      · rcases List.mem_cons.mp h with rfl | h
        · by_cases e : v = f
          · subst e; exact ih v (List.mem_cons_self ..)
          · have c2 : precB v f = true := (prec_tri hx hf e).resolve_right c
            rcases ih f (List.mem_cons_self ..) with e2 | e2
            · exact .inr (e2 ▸ c2)
            · exact .inr (precB_tr hx hf w0 c2 e2)
        · exact ih v (List.mem_cons_of_mem _ h)
theorem wk_weak {xs : List Int} (hn : ∀ v ∈ xs, 0 ≤ v) {v : Int} (h : v ∈ xs) : v = wk xs ∨ precB v (wk xs) = true := by
  cases xs with
  | nil => cases h
  | cons x r => exact wkF_weak r x (hn x (List.mem_cons_self ..)) (fun v hv => hn v (List.mem_cons_of_mem _ hv)) v h
theorem dropW_top : ∀ (n : Nat) (xs : List Int), n ≤ xs.length → xs.Nodup → (∀ v ∈ xs, 0 ≤ v) → (dropW n xs).Nodup ∧ ∀ u ∈ xs, u ∉ dropW n xs → ∀ v ∈ dropW n xs, precB v u = true
  | 0, xs, _, hd, _ => ⟨hd, fun u hu nu => absurd hu nu⟩
  | n + 1, xs, hl, hd, hn => by
    have ne : xs ≠ [] := fun e => by subst e; simp at hl
    have el : (xs.erase (wk xs)).length = xs.length - 1 := List.length_erase_of_mem (wk_mem ne)
    obtain ⟨i1, i2⟩ := dropW_top n (xs.erase (wk xs)) (by omega) (hd.erase _) fun v hv => hn v (List.mem_of_mem_erase hv)
    refine ⟨i1, fun u hu nu v hv => ?_⟩
    have hv' : v ∈ xs.erase (wk xs) := dropW_sub n _ v hv
    by_cases e : u = wk xs
    · subst e
      have := (List.Nodup.mem_erase_iff hd).mp hv'
      exact (wk_weak hn this.2).resolve_left this.1
    · exact i2 u ((List.Nodup.mem_erase_iff hd).mpr ⟨e, hu⟩) nu v hv
theorem nodup_len : ∀ {l m : List Int}, l.Nodup → (∀ x ∈ l, x ∈ m) → l.length ≤ m.length
  | [], m, _, _ => Nat.zero_le _
  | x :: l, m, hd, hs => by
    have ⟨h1, h2⟩ := List.nodup_cons.mp hd
    have hx : x ∈ m := hs x (List.mem_cons_self ..)
    have := nodup_len (l := l) (m := m.erase x) h2 fun y hy => (List.mem_erase_of_ne (show y ≠ x from fun e => h1 (e ▸ hy))).mpr (hs y (List.mem_cons_of_mem _ hy))
    have el := List.length_erase_of_mem hx
    have : 0 < m.length := List.length_pos_of_mem hx
    rw [List.length_cons]
    omega
theorem lt_nodup {l : List Int} (h : l.Pairwise (· < ·)) : l.Nodup := h.imp fun hab => by omega
theorem mem_eq : ∀ {l m : List Int}, l.Pairwise (· < ·) → m.Pairwise (· < ·) → (∀ x, x ∈ l ↔ x ∈ m) → l = m
  | [], [], _, _, _ => rfl
  | [], y :: m, _, _, h => by have := (h y).mpr (List.mem_cons_self ..); cases this
  | x :: l, [], _, _, h => by have := (h x).mp (List.mem_cons_self ..); cases this
  | x :: l, y :: m, h1, h2, h => by
    have ⟨a1, a2⟩ := List.pairwise_cons.mp h1
    have ⟨b1, b2⟩ := List.pairwise_cons.mp h2
    have e : x = y := by
      have m1 := (h x).mp (List.mem_cons_self ..)
      have m2 := (h y).mpr (List.mem_cons_self ..)
      rcases List.mem_cons.mp m1 with e | e
      · exact e
      rcases List.mem_cons.mp m2 with e2 | e2
      · exact e2.symm
      have := b1 x e
      have := a1 y e2
      omega
    subst e
    rw [mem_eq a2 b2 fun z => ?_]
    constructor
    · intro hz
      have := a1 z hz
      exact (List.mem_cons.mp ((h z).mp (List.mem_cons_of_mem _ hz))).resolve_left (by omega)
    · intro hz
      have := b1 z hz
      exact (List.mem_cons.mp ((h z).mpr (List.mem_cons_of_mem _ hz))).resolve_left (by omega)
/-- the n strongest of A, ascending -/
structure Kd (A : Int → Prop) (n : Nat) (ks : List Int) : Prop where
  len : ks.length = n
  pw : ks.Pairwise (· < ·)
  sub : ∀ v ∈ ks, A v
  out : ∀ u, A u → u ∉ ks → ∀ v ∈ ks, precB v u = true
theorem Kd.sub_of {A : Int → Prop} {n : Nat} {ks ls : List Int} (nn : ∀ u, A u → 0 ≤ u) (h : Kd A n ks) (g : Kd A n ls) : ∀ u ∈ ks, u ∈ ls := fun u hu => Classical.byContradiction fun nu => by
  obtain ⟨x, hx, nx⟩ : ∃ x ∈ ls, x ∉ ks := Classical.byContradiction fun hh => by
    have := nodup_len (l := ls) (m := ks.erase u) (lt_nodup g.pw) fun x hx => by
      have hk : x ∈ ks := Classical.byContradiction fun z => hh ⟨x, hx, z⟩
      exact (List.mem_erase_of_ne (show x ≠ u from fun e => nu (e ▸ hx))).mpr hk
    rw [List.length_erase_of_mem hu, h.len, g.len] at this
    have := List.length_pos_of_mem hu
    have := h.len
    omega
  exact prec_asym (nn _ (h.sub u hu)) (nn _ (g.sub x hx)) (h.out x (g.sub x hx) nx u hu) (g.out u (h.sub u hu) nu x hx)
theorem Kd.uniq {A : Int → Prop} {n : Nat} {ks ls : List Int} (nn : ∀ u, A u → 0 ≤ u) (h : Kd A n ks) (g : Kd A n ls) : ks = ls :=
  mem_eq h.pw g.pw fun u => ⟨h.sub_of nn g u, g.sub_of nn h u⟩
theorem srt_lt {xs : List Int} (h : xs.Nodup) : (srt xs).Pairwise (· < ·) := by
  have h1 := srt_pw xs
  have h2 : (srt xs).Nodup := (srt_perm xs).nodup_iff.mpr h
  exact h1.imp₂ (fun a b hab hne => by omega) h2
theorem kd_srt {A : Int → Prop} {n : Nat} {xs : List Int} (hl : xs.length = n) (hd : xs.Nodup) (hs : ∀ v ∈ xs, A v) (ho : ∀ u, A u → u ∉ xs → ∀ v ∈ xs, precB v u = true) : Kd A n (srt xs) :=
  ⟨by rw [(srt_perm xs).length_eq, hl], srt_lt hd, fun v hv => hs v ((srt_perm xs).mem_iff.mp hv), fun u hu nu v hv => ho u hu (fun z => nu ((srt_perm xs).mem_iff.mpr z)) v ((srt_perm xs).mem_iff.mp hv)⟩
/-! ## a range arrives as its versions one by one -/
theorem strongL_nil {lo hi : Int} {n : Nat} (h0 : 0 ≤ lo) (h1 : 0 ≤ hi) (h : hi < lo) : strongL lo hi n = [] :=
  List.eq_nil_iff_forall_not_mem.mpr fun v hv => by have := (strongL_top (n := n) h0 h1).sub v hv; omega
theorem rgI_succ {lo h : Int} (hl : lo ≤ h + 1) : rgI lo (h + 1) = rgI lo h ++ [h + 1] := by
  unfold rgI
  have e : (h + 1 - lo + 1).toNat = (h - lo + 1).toNat + 1 := by omega
  rw [e, List.range_succ, List.map_append]
  have e2 : lo + (((h - lo + 1).toNat : Nat) : Int) = h + 1 := by omega
  rw [List.map_cons, List.map_nil, e2]
theorem rgI_pw : ∀ (lo hi : Int), (rgI lo hi).Pairwise (· < ·) := fun lo hi => by
  unfold rgI
  rw [List.pairwise_map]
  exact List.pairwise_lt_range.imp fun h => by omega
/-- what may wait -/
def Cand (w : List Int) (lo hi : Int) (u : Int) : Prop := u ∈ w ∨ (lo ≤ u ∧ u ≤ hi)
theorem Cand.nn {w : List Int} {lo hi u : Int} {cap : Nat} (k : WOk w lo cap) (h : Cand w lo hi u) : 0 ≤ u := by
  rcases h with h | h
  · exact (k.b u h).1
  · have := k.l0; omega
theorem aftR_small {w : List Int} {lo hi : Int} {cap : Nat} (h : (w.length : Int) + hi - lo + 1 ≤ cap) : aftR w lo hi cap = w ++ rgI lo hi := if_pos h
theorem aftR_great {w : List Int} {lo hi : Int} {cap : Nat} (k : WOk w lo cap) (sw : w.Pairwise (· < ·)) (hl : lo ≤ hi) (h : ¬ (w.length : Int) + hi - lo + 1 ≤ cap) :
    ∃ ks, aftR w lo hi cap = ks ++ [hi] ∧ Kd (Cand w lo (hi - 1)) (cap - 1) ks := by
  have c2 := k.c2
  have l0 := k.l0
  have h1 : 1 ≤ hi := by
    by_cases e : hi = 0
    · exact absurd (k.hi0 hl e) h
    · omega
  have tp := strongL_top (lo := lo) (hi := hi - 1) (n := cap - 1) l0 (by omega)
  refine ⟨_, if_neg h, ?_⟩
  have hS := tp.sub
  have onn : ∀ v ∈ othR w lo hi cap, 0 ≤ v := fun v hv => by
    rcases List.mem_append.mp hv with z | z
    · exact (k.b v z).1
    · exact (hS v z).2.2
  have snd : (strongL lo (hi - 1) (cap - 1)).Nodup := by
    refine tp.pw.imp_of_mem fun {a b} ha hb hab e => ?_
    subst e
    rw [prec_irr (hS a ha).2.2] at hab
    cases hab
  have ond : (othR w lo hi cap).Nodup := by
    refine List.nodup_append.mpr ⟨lt_nodup sw, snd, fun a ha b hb e => ?_⟩
    subst e
    have := k.b a ha
    have := hS a hb
    omega
  have olen : cap - 1 ≤ (othR w lo hi cap).length := by
    unfold othR
    rw [List.length_append]
    refine Classical.byContradiction fun hlt => ?_
    have all : ∀ u, lo ≤ u → u ≤ hi - 1 → u ∈ strongL lo (hi - 1) (cap - 1) := fun u a b => Classical.byContradiction fun nu => by
      have := (tp.out u ⟨a, b, by omega⟩ nu).1
      omega
    have := nodup_len (l := rgI lo (hi - 1)) (lt_nodup (rgI_pw _ _)) fun x hx => all x (rgI_mem.mp hx).1 (rgI_mem.mp hx).2
    rw [rgI_len] at this
    omega
  obtain ⟨d1, d2⟩ := dropW_top ((othR w lo hi cap).length - (cap - 1)) (othR w lo hi cap) (by omega) ond onn
  have dl := dropW_len ((othR w lo hi cap).length - (cap - 1)) (othR w lo hi cap) (by omega)
  have ds := dropW_sub ((othR w lo hi cap).length - (cap - 1)) (othR w lo hi cap)
  generalize dropW ((othR w lo hi cap).length - (cap - 1)) (othR w lo hi cap) = D at d1 d2 dl ds
  refine kd_srt (by omega) d1 (fun v hv => ?_) fun u hu nu v hv => ?_
  · rcases List.mem_append.mp (ds v hv) with z | z
    · exact .inl z
    · exact .inr ⟨(hS v z).1, (hS v z).2.1⟩
  · by_cases hm : u ∈ othR w lo hi cap
    · exact d2 u hm nu v hv
    · have nw : u ∉ w := fun z => hm (List.mem_append_left _ z)
      have nS : u ∉ strongL lo (hi - 1) (cap - 1) := fun z => hm (List.mem_append_right _ z)
      have hr := hu.resolve_left nw
      have to := tp.out u ⟨hr.1, hr.2, by omega⟩ nS
      by_cases vS : v ∈ strongL lo (hi - 1) (cap - 1)
      · exact to.2 v vS
      · obtain ⟨s, hs, ns⟩ : ∃ s ∈ strongL lo (hi - 1) (cap - 1), s ∉ D := Classical.byContradiction fun hh => by
          have := nodup_len (l := strongL lo (hi - 1) (cap - 1)) (m := D.erase v) snd fun s hs => by
            have hd : s ∈ D := Classical.byContradiction fun z => hh ⟨s, hs, z⟩
            exact (List.mem_erase_of_ne (show s ≠ v from fun e => vS (e ▸ hs))).mpr hd
          rw [List.length_erase_of_mem hv, to.1] at this
          have := List.length_pos_of_mem hv
          omega
        exact precB_tr (onn v (ds v hv)) (hS s hs).2.2 (by omega) (d2 s (List.mem_append_right _ hs) ns v hv) (to.2 s hs)
theorem append_lt {ks : List Int} {x : Int} (h : ks.Pairwise (· < ·)) (hx : ∀ v ∈ ks, v < x) : (ks ++ [x]).Pairwise (· < ·) :=
  List.pairwise_append.mpr ⟨h, by simp, fun a ha b hb => by simp at hb; subst hb; exact hx a ha⟩
theorem Cand.lt {w : List Int} {lo hi u : Int} {cap : Nat} (k : WOk w lo cap) (hl : lo ≤ hi + 1) (h : Cand w lo hi u) : u < hi + 1 := by
  rcases h with h | h
  · have := k.b u h; omega
  · omega
theorem aftR_pw {w : List Int} {lo hi : Int} {cap : Nat} (k : WOk w lo cap) (sw : w.Pairwise (· < ·)) (hl : lo ≤ hi) : (aftR w lo hi cap).Pairwise (· < ·) := by
  by_cases h : (w.length : Int) + hi - lo + 1 ≤ cap
  · rw [aftR_small h]
    refine List.pairwise_append.mpr ⟨sw, rgI_pw _ _, fun a ha b hb => ?_⟩
    have := k.b a ha
    have := rgI_mem.mp hb
    omega
  · obtain ⟨ks, e, kd⟩ := aftR_great k sw hl h
    rw [e]
    refine append_lt kd.pw fun v hv => ?_
    have := (kd.sub v hv).lt k (by omega)
    omega
theorem aftR_cand {w : List Int} {lo hi : Int} {cap : Nat} (k : WOk w lo cap) (sw : w.Pairwise (· < ·)) (hl : lo ≤ hi) : ∀ v ∈ aftR w lo hi cap, Cand w lo hi v := fun v hv => by
  by_cases h : (w.length : Int) + hi - lo + 1 ≤ cap
  · rw [aftR_small h] at hv
    rcases List.mem_append.mp hv with z | z
    · exact .inl z
    · exact .inr (rgI_mem.mp z)
  · obtain ⟨ks, e, kd⟩ := aftR_great k sw hl h
    rw [e] at hv
    rcases List.mem_append.mp hv with z | z
    · exact (kd.sub v z).imp_right fun z => ⟨z.1, by omega⟩
    · simp at z; exact .inr (by omega)
/-- who does not wait is weaker than all that do, but the newest -/
theorem aftR_out {w : List Int} {lo hi : Int} {cap : Nat} (k : WOk w lo cap) (sw : w.Pairwise (· < ·)) (hl : lo ≤ hi) : ∀ u, Cand w lo hi u → u ∉ aftR w lo hi cap → ∀ v ∈ aftR w lo hi cap, v ≠ hi → precB v u = true := fun u hu nu v hv nv => by
  by_cases h : (w.length : Int) + hi - lo + 1 ≤ cap
  · rw [aftR_small h] at nu
    refine absurd ?_ nu
    rcases hu with z | z
    · exact List.mem_append_left _ z
    · exact List.mem_append_right _ (rgI_mem.mpr z)
  · obtain ⟨ks, e, kd⟩ := aftR_great k sw hl h
    rw [e] at nu hv
    have hu2 : u ≠ hi := fun z => nu (by rw [z]; simp)
    have hv2 : v ∈ ks := (List.mem_append.mp hv).resolve_right (by simpa using nv)
    exact kd.out u (hu.imp_right fun z => ⟨z.1, by omega⟩) (fun z => nu (List.mem_append_left _ z)) v hv2
theorem aft_step {w : List Int} {lo h : Int} {cap : Nat} (k : WOk w lo cap) (sw : w.Pairwise (· < ·)) (hl : lo ≤ h) : aftR w lo (h + 1) cap = aftR (aftR w lo h cap) (h + 1) (h + 1) cap := by
  have c2 := k.c2
  have l0 := k.l0
  have kpw := aftR_pw k sw hl
  have kc := aftR_cand k sw hl
  have ko := aftR_out k sw hl
  have klen := aftR_len (lo := lo) (hi := h) (by omega : 1 ≤ cap) k.len
  have k2 : WOk (aftR w lo h cap) (h + 1) cap := ⟨k.c2, k.c9, klen, by omega, fun v hv => by
    have := (kc v hv).lt k (by omega)
    have := (kc v hv).nn k
    omega⟩
  by_cases hs : (w.length : Int) + (h + 1) - lo + 1 ≤ cap
  · rw [aftR_small hs, aftR_small (w := aftR w lo h cap) (by rw [aftR_small (by omega), List.length_append, rgI_len]; omega), aftR_small (by omega : (w.length : Int) + h - lo + 1 ≤ cap), rgI_succ (by omega), List.append_assoc]
    congr 1
    congr 1
    unfold rgI
    have e : (h + 1 - (h + 1) + 1).toNat = 1 := by omega
    rw [e]
    simp
  · obtain ⟨ks, e, kd⟩ := aftR_great k sw (by omega) hs
    have elen : (aftR w lo h cap).length = cap := by
      by_cases hs2 : (w.length : Int) + h - lo + 1 ≤ cap
      · rw [aftR_small hs2, List.length_append, rgI_len]
        omega
      · obtain ⟨ls, e2, kd2⟩ := aftR_great k sw hl hs2
        rw [e2, List.length_append, kd2.len]
        simp
        omega
    obtain ⟨ls, e2, kd2⟩ := aftR_great k2 kpw (Int.le_refl _) (by omega)
    rw [e, e2]
    congr 1
    refine kd.uniq (fun u hu => hu.nn k) ⟨kd2.len, kd2.pw, fun v hv => ?_, fun u hu nu v hv => ?_⟩
    · have e3 : h + 1 - 1 = h := by omega
      rw [e3]
      exact kc v ((kd2.sub v hv).resolve_right (by omega))
    · have e3 : h + 1 - 1 = h := by omega
      rw [e3] at hu
      have hvK : v ∈ aftR w lo h cap := (kd2.sub v hv).resolve_right (by omega)
      by_cases hK : u ∈ aftR w lo h cap
      · exact kd2.out u (.inl hK) nu v hv
      · by_cases evh : v = h
        · obtain ⟨x, hx, nx⟩ : ∃ x ∈ aftR w lo h cap, x ∉ ls := Classical.byContradiction fun hh => by
            have := nodup_len (l := aftR w lo h cap) (m := ls) (lt_nodup kpw) fun x hx => Classical.byContradiction fun z => hh ⟨x, hx, z⟩
            rw [elen, kd2.len] at this
            omega
          have nxh : x ≠ h := fun z => nx (by rw [z, ← evh]; exact hv)
          exact precB_tr ((kc v hvK).nn k) ((kc x hx).nn k) (hu.nn k) (kd2.out x (.inl hx) nx v hv) (ko u hu hK x hx nxh)
        · exact ko u hu hK v hvK evh
/-! ## sorted(xs, key=f), f an own def: the two lists of the sort as a footprint -/
section
open PySem.W (KeepsBut AllAlike Sortable KeyedOut EachIs SortsAt dataKind keyH_end keyedOut_each dataLe)
variable {X : Cx} {pins : List (Addr × Obj)} {σ : St} {H0 H H1 : Hp} {s0 s : Shared} {A : Around} {a kS : Addr} {f : Value} {b : Bool} {vs : List Value} {e1 : Nat} {kz : List PyData} {P : PySem.Fin → Shared → Prop} {E : Value → Shared → Prop}
theorem each_snoc2 {α β : Type} {R : α → β → Prop} {x : α} {y : β} : ∀ {as : List α} {bs : List β}, EachIs R as bs → R x y → EachIs R (as ++ [x]) (bs ++ [y])
  | _, _, .nil, h => .cons h .nil
  | _, _, .cons h t, h2 => .cons h (each_snoc2 t h2)
theorem keyI_rest (I0 : Inv X pins σ H0 s0) (h0a : s0.heap.objs.size ≤ a) (h0k : s0.heap.objs.size ≤ kS) (hka : kS ≠ a) (I : Inv X pins σ H s) (nk : s.heap.get? kS = some (seqObj "list" #[] 0)) (na : s.heap.get? a = some (seqObj "list" #[] e1)) (hfk : H kS = none) (hfa : H a = none)
    (hlen : kz.length = vs.length) (hZ : vs.length ≤ sizeLine) (hal : AllAlike kz) (hsk : Sortable kz) (hu : ∀ d, d ∈ kz → A.units + d.depth < cLine)
    (turn : ∀ (i : Nat) (v : Value) (k : PyData), vs[i]? = some v → kz[i]? = some k → ∀ pins' s' H', Inv X pins' σ H' s' → Ex H H' → wpAny (model X.prog X.w) A (call f [v]) (fun r s'' => ∃ y H'', Inv X pins' σ H'' s'' ∧ Ex H' H'' ∧ RelV y r ∧ Dp X.K H'' y k) (fun _ _ => False) s')
    (h : ∀ s' H' out c, Inv X pins σ H' s' → Ex H H' → H' a = none → s'.heap.get? a = some (seqObj "list" (List.toArray out) c) → KeyedOut b kz vs out → P (.done (.ret .none)) s') :
    wpAny (model X.prog X.w) A (ksk_rest a f b vs.toArray e1 (.ref kS)) P E s := by
  unfold ksk_rest
  refine wpAny_bind (wpAny_rule ?_)
  first
    | rw [List.forIn_toArray]
    | (rw [← Array.forIn_toList]; simp only [List.toList_toArray])
    | rw [← Array.forIn_toList]
  have fk : ∀ {H' : Hp}, H' kS = none → FpOk X pins H' kS := fun hn => I0.fpOk h0k hn
  have fa : ∀ {H' : Hp}, H' a = none → FpOk X pins H' a := fun hn => I0.fpOk h0a hn
  refine wpAny_bind (ksk_fold (fun i s' => ∃ H' kA e, Inv X pins σ H' s' ∧ Ex H H' ∧ H' kS = none ∧ H' a = none ∧ s'.heap.get? kS = some (seqObj "list" kA e) ∧ s'.heap.get? a = some (seqObj "list" #[] e1) ∧ EachIs (fun v k => ∃ y, RelV y v ∧ Dp X.K H' y k) kA.toList (kz.take i)) vs 0 s
    ⟨H, #[], 0, I, Ex.refl _, hfk, hfa, nk, na, by rw [List.take_zero]; exact .nil⟩ ?step ?done)
  case step =>
    rintro j x s' hx ⟨H', kA, e, I', x', hk', ha', nk', na', hks⟩
    simp only [Nat.zero_add] at hks ⊢
    have hj : j < vs.length := (List.getElem?_eq_some_iff.mp hx).1
    obtain ⟨k, hkj⟩ : ∃ k, kz[j]? = some k := ⟨_, List.getElem?_eq_getElem (by omega)⟩
    have hz : kA.size ≤ vs.length := by
      have h1 := hks.length
      rw [Array.length_toList, List.length_take] at h1
      omega
    have Ip := I'.pinned (fp := [kS, a]) (fun b hb => by
      simp at hb
      rcases hb with rfl | rfl
      · exact fk hk'
      · exact fa ha') (fun b hb => by
      simp at hb
      rcases hb with rfl | rfl
      · exact ⟨_, nk', fun _ => by intro z; cases z⟩
      · exact ⟨_, na', fun _ => by intro z; cases z⟩)
    refine wpAny_bind (wpAny_attempt (wpAny_mono (turn j x k hx hkj _ s' H' Ip x') (fun v s'' he => ?_) fun _ _ hF => hF.elim))
    obtain ⟨y, H'', I2, x2, ry, hd⟩ := he
    try dsimp only
    have pk := I2.pin (kS, seqObj "list" kA e) (List.mem_append_right _ (List.mem_append_right _ (mem_pinsAt (by simp) nk')))
    have pa := I2.pin (a, seqObj "list" #[] e1) (List.mem_append_right _ (List.mem_append_right _ (mem_pinsAt (by simp) na')))
    have nk2 : s''.heap.get? kS = some (seqObj "list" kA e) := pk.1
    have na2 : s''.heap.get? a = some (seqObj "list" #[] e1) := pa.1
    have hk2 : H'' kS = none := pk.2.1
    have ha2 : H'' a = none := pa.2.1
    have I3 := I2.unpinned
    have s1 := Heap.SameBut.update s''.heap kS (Obj.mapSeq (·.push v))
    obtain ⟨c2, hc2⟩ : ∃ c2, (s''.heap.update kS (Obj.mapSeq (·.push v))).get? kS = some (seqObj "list" (kA.push v) c2) := ⟨_, get?_update_seq nk2 (·.push v)⟩
    have ek : kz.take (j + 1) = kz.take j ++ [k] := by rw [List.take_add_one, hkj]; simp
    have ea : (kA.push v).toList = kA.toList ++ [v] := by simp
    refine wpAny_bind (listUpdate_at nk2 rfl ?_ (Nat.le_trans hz hZ) (Nat.le_trans (Nat.le_of_eq (Array.size_push ..)) (Nat.succ_le_succ (Nat.le_trans hz hZ))))
    obtain ⟨f0, f1, f2, f3, f4, f5⟩ := fk hk2
    refine wpAny_pure ⟨rfl, H'', kA.push v, c2, I3.turned (t' := s''.toks) (fun b o hb e => (s1.2 b hb).trans e) f0 f1 f3 f4 f5, x'.trans x2, hk2, ha2, hc2, (s1.2 a hka.symm).trans na2, ?_⟩
    rw [ea, ek]
    exact each_snoc2 (hks.mono fun u d ⟨y, r, q⟩ => ⟨y, r, Dp.ex x2 q⟩) ⟨y, ry, hd⟩
  case done =>
    rintro s' ⟨H', kA, e, I', x', hk', ha', nk', na', hks⟩
    have e3 : kz.take (0 + vs.length) = kz := List.take_of_length_le (by omega)
    rw [e3] at hks
    have hk2 : EachIs (fun v k => ∃ as, Reads s'.heap v k as) kA.toList kz := hks.mono fun v k ⟨y, r, q⟩ => Dp.reads I' k y v q r
    have hsz : kA.size = vs.length := by
      have h1 := hk2.length
      rw [Array.length_toList] at h1
      omega
    try dsimp only
    refine wpAny_bind (listItems_at nk' rfl ?_)
    obtain ⟨G, g1, g2⟩ := restrict s'.heap fun b => decide (b ≠ kS)
    have gk : ∀ b o, b ≠ kS → s'.heap.get? b = some o → G.get? b = some o := fun b o hb e => by
      rw [g1 b (decide_eq_true hb)]
      exact e
    have kp : KeepsBut a G s'.heap := fun b o hb e => by
      by_cases z : b = kS
      · subst z; rw [g2 b (decide_eq_false fun z => z rfl)] at e; cases e
      · rw [g1 b (decide_eq_true z)] at e; exact e
    refine keyH_end (κ := dataKind s'.heap kz) (h₁ := G) kp (g2 kS (decide_eq_false fun z => z rfl)) nk' na' hka (SortsAt.data hk2 hal hsk hu) hsz hZ fun h3 tk3 c k3 n3 => ?_
    refine h _ H' _ c (I'.turnedL (h' := h3) (t' := tk3) (ch := [kS, a]) (fun b o hb e => ?_) fun b hb => ?_) x' ha' n3 ⟨s'.heap, kA.toList, hal, rfl, hk2⟩
    · simp at hb
      exact k3 b o hb.2 (gk b o hb.1 e)
    · simp at hb
      rcases hb with rfl | rfl
      · exact fk hk'
      · exact fa ha'
theorem keyI_tree (I : Inv X pins σ H s) {n : Nat} (h1 : s0.heap.objs.size ≤ a) (I0 : Inv X pins σ H0 s0) (hsz0 : s0.heap.objs.size ≤ s.heap.objs.size) (ho : s.heap.get? a = some (seqObj "list" vs.toArray n)) (hfa : H a = none)
    (hlen : kz.length = vs.length) (hZ : vs.length ≤ sizeLine) (hal : AllAlike kz) (hsk : Sortable kz) (hu : ∀ d, d ∈ kz → A.units + d.depth < cLine)
    (turn : ∀ (i : Nat) (v : Value) (k : PyData), vs[i]? = some v → kz[i]? = some k → ∀ pins' s' H', Inv X pins' σ H' s' → Ex H H' → wpAny (model X.prog X.w) A (call f [v]) (fun r s'' => ∃ y H'', Inv X pins' σ H'' s'' ∧ Ex H' H'' ∧ RelV y r ∧ Dp X.K H'' y k) (fun _ _ => False) s')
    (h : ∀ s' H' out c, Inv X pins σ H' s' → Ex H H' → H' a = none → s'.heap.get? a = some (seqObj "list" (List.toArray out) c) → KeyedOut b kz vs out → P (.done (.ret .none)) s') :
    wpAny (model X.prog X.w) A (ksk_tree a f b) P E s := by
  have ha : a < s.heap.objs.size := Heap.lt_size ho
  obtain ⟨e1, ho1⟩ : ∃ e1, (s.heap.update a (Obj.mapSeq fun _ => (#[] : Array Value))).get? a = some (seqObj "list" #[] e1) := ⟨_, get?_update_seq ho fun _ => #[]⟩
  have hkS : ((s.heap.update a (Obj.mapSeq fun _ => (#[] : Array Value))).push (seqObj "tuple" vs.toArray 0)).objs.size = s.heap.objs.size + 1 := by rw [size_push', Heap.size_update]
  unfold ksk_tree
  refine wpAny_bind (listItems_at ho rfl ?_)
  refine wpAny_bind (listUpdate_at ho rfl ?_ (by rw [List.size_toArray]; exact hZ) (Nat.zero_le _))
  refine wpAny_bind (seqEpoch_at ho1 rfl ?_)
  refine wpAny_bind (wpAny_newTuple ?_ (by show vs.length ≤ _; exact hZ))
  refine wpAny_bind (wpAny_newList ?_ (Nat.zero_le _))
  refine wpAny_holding ?_
  obtain ⟨f0, f1, f2, f3, f4, f5⟩ := (I0.fpOk h1 hfa : FpOk X pins H a)
  have I1 : Inv X pins σ H { s with heap := ((s.heap.update a (Obj.mapSeq fun _ => (#[] : Array Value))).push (seqObj "tuple" vs.toArray 0)).push (seqObj "list" #[] 0) } :=
    I.turned (t' := s.toks) (fun b o hb e => PySem.W.sortingHeap_old hb e) f0 f1 f3 f4 f5
  refine keyI_rest I0 h1 (by rw [hkS]; omega) (by rw [hkS]; exact Nat.ne_of_gt (Nat.lt_succ_of_lt ha)) I1 (Heap.get?_push_size _ rfl) (Heap.get?_push_of_some _ (Heap.get?_push_of_some _ ho1)) ?_ hfa hlen hZ hal hsk hu turn h
  rw [hkS]
  exact I.hok.fresh (Nat.le_succ _)
/-- sorted(xs, key=f) at the values -/
theorem sortedI {l : Addr} {xs : List V} {kw : List (Str × Value)} {Q : VK} (k : V → PyData) (I : Inv X pins σ H1 s) (x : Ex H H1) (hs : SqL X.K H l xs) (hal : AllAlike (xs.map k)) (hsk : Sortable (xs.map k)) (hL : xs.length ≤ 100000) (hu : ∀ v ∈ xs, X.A.units + 2 + (k v).depth < cLine)
    (ha1 : argsOk "sorted" ⟨[.ref l], kw⟩) (ha2 : ∀ x, argsOk "list.sort" ⟨[.ref x], kw⟩) (ht : ∀ x, Builtin.«list.sort» ⟨[.ref x], kw⟩ = ksk_tree x f b)
    (turn : ∀ v u, v ∈ xs → RelV v u → ∀ pins' s' H', Inv X pins' σ H' s' → Ex H H' → wpAny (model X.prog X.w) X.A.in1.in1 (call f [u]) (fun r s'' => ∃ y H'', Inv X pins' σ H'' s'' ∧ Ex H' H'' ∧ RelV y r ∧ Dp X.K H'' y (k v)) (fun _ _ => False) s')
    (q : ∀ p H', Ex H H' → H' p = none → Q (.ref p) (upd H' p (.lst (xs.mergeSort (dataLe b k))))) : wpAny (model X.prog X.w) X.A (call (.builtin "sorted") [.ref l] kw) (EP X pins σ (up Q)) X.xe s := by
  obtain ⟨its, rv, hl, hz⟩ := I.list (x.sqL hs)
  have ev : ∀ {xs : List V} {us : List Value}, Vals xs us → EachIs (fun u v => RelV v u) us xs := fun {xs us} r => by
    induction r with
    | nil => exact .nil
    | cons h _ ih => exact .cons h ih
  have e := ev rv
  have hlen : its.length = xs.length := rv.length.symm
  have hsl : xs.length ≤ sizeLine := by rw [sizeLine_eq]; omega
  refine PySem.W.sorted_of_sort hl.isList (by rw [hlen]; exact hsl) ha1 ha2 fun E' => ?_
  rw [ht]
  have hfa : H1 (s.heap.objs.size + 1) = none := I.hok.fresh (Nat.le_succ _)
  have I1 : Inv X pins σ H1 { s with heap := PySem.W.copyHeap s.heap its } := I.kept (t' := s.toks) fun b u e => PySem.W.copyHeap_old e
  refine keyI_tree (b := b) (kz := xs.map k) (P := fun f s' => f = .done (.ret .none) ∧ EP X pins σ (up Q) (.ref (s.heap.objs.size + 1)) s') (s0 := s) I1 (Nat.le_succ _) I (by
    show s.heap.objs.size ≤ (PySem.W.copyHeap s.heap its).objs.size
    exact Nat.le_of_lt (Nat.lt_of_succ_lt (Heap.lt_size (PySem.W.copyHeap_at s.heap its)))) (PySem.W.copyHeap_at s.heap its) hfa (by rw [List.length_map]; exact hlen.symm) (by rw [hlen]; exact hsl) hal hsk (fun d hd => ?_) (fun i u d hu' hd pins' s' H' I' x' => ?_) fun s' H' out c I' x' n' g' ko => ⟨rfl, ?_⟩
  · obtain ⟨v, hv, rfl⟩ := List.mem_map.mp hd
    exact hu v hv
  · rw [List.getElem?_map] at hd
    cases q1 : xs[i]? with
    | none => rw [q1] at hd; simp at hd
    | some v =>
      rw [q1] at hd
      have hd' : some (k v) = some d := hd
      rw [← Option.some.inj hd']
      have hz : (u, v) ∈ its.zip xs := List.mem_of_getElem? (i := i) (by rw [List.getElem?_zip_eq_some]; exact ⟨hu', q1⟩)
      exact turn v u (List.mem_of_getElem? q1) (e.zip _ hz) pins' s' H' I' (x.trans x')
  · have eo := keyedOut_each k ko e
    have bv : ∀ {xs : List V} {us : List Value}, EachIs (fun u v => RelV v u) us xs → Vals xs us := fun {xs us} r => by
      induction r with
      | nil => exact .nil
      | cons h _ ih => exact .cons h ih
    have vo := bv eo
    obtain ⟨G, g1, g2⟩ := restrict s'.heap fun b => decide (b ≠ s.heap.objs.size + 1)
    have I2 : Inv X pins σ H' { s' with heap := G } := I'.turnedL (t' := s'.toks) (ch := [s.heap.objs.size + 1]) (fun b o hb e => by
      simp at hb
      rw [g1 b (decide_eq_true hb)]
      exact e) fun b hb => by
      simp at hb
      subst hb
      exact I.fpOk (Nat.le_succ _) n'
    have I3 : Inv X pins σ (upd H' (s.heap.objs.size + 1) (.lst (xs.mergeSort (dataLe b k)))) s' := I2.laidN (h' := s'.heap) (t' := s'.toks) (fun b u e => by
      by_cases z : b = s.heap.objs.size + 1
      · subst z; rw [g2 _ (decide_eq_false fun z => z rfl)] at e; cases e
      · rw [g1 b (decide_eq_true z)] at e; exact e) (g2 _ (decide_eq_false fun z => z rfl)) n' ⟨by rw [List.length_mergeSort]; exact hsl, _, c, vo, g'⟩
    exact ⟨.ref _, _, I3, rfl, _, Ex.refl _, q _ _ (x.trans x') n'⟩
end
/-! ## the reading -/
section
variable {X : Cx} {j k : Nat} {W : WX} {e : Expr} {es : List Expr} {kws : List Keyword} {σ : St} {H H1 : Hp} {Q : VK} {pos p : Pos} {to : RX} {tk : RA} {n x : Str} {sp : Sp}
/-- a def called with one value at another place, where nothing may be raised -/
theorem run_keyed {A : Around} {f : Addr} {fd : FuncData} {u : Value} {v : V} {d : PyData} {pins : List (Addr × Obj)} {s : Shared} (F : FnG X.prog X.w X.K X.mg X.base k f fd [x] sp) (hr : Room k A) (hg : A.guards = some []) (hf : A.frames = X.A.frames) (hb : Binds X.K fd [x] []) (I : Inv X pins σ H s) (r : RelV v u)
    (h : sp [v] H (fun y H' => Ex H H' ∧ Dp X.K H' y d) fun _ _ _ => False) : wpAny (model X.prog X.w) A (call (.ref f) [u]) (fun r s'' => ∃ y H'', Inv X pins σ H'' s'' ∧ Ex H H'' ∧ RelV y r ∧ Dp X.K H'' y d) (fun _ _ => False) s := by
  have e0 : Env0 X.prog X.w X.K X.mg X.base A X.stack s H := by
    have e := I.env0
    exact ⟨by rw [hf]; exact e.frames, e.mod, e.bs, e.bsz, e.funs, e.frf, e.hok, e.bare⟩
  refine wpAny_call (codeAny_mono (F.run A X.stack s H ⟨[u], []⟩ [u] [v] H _ _ hr hg e0 (by
    have := hb s [u] I.kIn rfl
    simpa using this) (.cons r .nil) (Ex.refl _) h) fun res s' q => ?_)
  rcases res with er | fl
  · obtain ⟨_, _, _, _, _, _, _, _, _, _, _, _, _, _, _, _, w⟩ := (XE.of_call (W := fun _ _ _ _ => False) I (fun cl d H' ⟨H2, x2, q2⟩ => q2.elim) q)
    exact w.elim
  · cases fl with
    | ret u =>
      obtain ⟨y, H', I', ry, H2, x2, x3, hd⟩ := I.after q
      exact ⟨y, H', I', x3.trans x2, ry, Dp.ex x2 hd⟩
    | _ => exact q.elim
/-- sorted(xs, key=f), f the def at fA -/
def rSortK (K : PySem.W.Frag) (fA : Addr) (sp : Sp) (to : RX) (tk : RA) : RX := fun σ H Q W => to σ H (fun x H1 => tk σ H1 (fun zs H2 => zs = [.ref fA] ∧ ∃ (l : Addr) (xs : List V) (k : V → PyData), x = .ref l ∧ SqL K H2 l xs ∧ PySem.W.AllAlike (xs.map k) ∧ PySem.W.Sortable (xs.map k) ∧ xs.length ≤ 100000 ∧ (∀ v ∈ xs, (k v).depth ≤ 20) ∧
  (∀ v ∈ xs, ∀ H', Ex H2 H' → sp [v] H' (fun y H'' => Ex H' H'' ∧ Dp K H'' y (k v)) fun _ _ _ => False) ∧ ∀ p H', Ex H2 H' → H' p = none → Q (.ref p) (upd H' p (.lst (xs.mergeSort (PySem.W.dataLe false k))))) W) W
theorem s_sortK {fA : Addr} (C : Cal X.prog X.w X.K X.mg X.base n k [x] [] sp) (hn : X.mg n = some (.ref fA)) (hm : X.mg "sorted" = none) (h : SX X j to e) (hk : SK X j tk kws) (hkj : k + 2 ≤ j := by decide) (hg : Gl X "sorted" := by rfl)
    (he : backTo pos (starEach [e] X.env) = (false, eval e X.env) :: backTo pos (starEach [] X.env) := by rfl) (hpl : (backTo pos (starEach [e] X.env)).any (·.1) = false := by rfl) (he2 : starEach [e] X.env = (false, eval e X.env) :: starEach [] X.env := by rfl)
    (hall : (backToKw pos (keywordEach kws X.env)).all (·.1.isSome) = true := by rfl) (hnone : (backToKw pos (keywordEach kws X.env)).any (·.1.isNone) = false := by rfl) (hks : (backToKw pos (keywordEach kws X.env)).filterMap (·.1) = [Str.ofString "key"] := by rfl) : SX X j (rSortK X.K fA sp to tk) (.Call (.Name "sorted" p) [e] kws pos) := by
  obtain ⟨f, fd, ds, F, hm2, hkp, hb, hd, _⟩ := C.ex
  cases hd
  have ef : f = fA := by
    have := hm2.symm.trans hn
    cases this
    rfl
  subst ef
  refine ⟨fun c σ H Q q H1 x1 pins s I => ?_⟩
  refine wpAny_Call_Name_kw (ld_blt I hg hm PyProof.Rows.boot_sorted ?_ (by decide) (by decide))
  refine PyProof.Rows.callWith_kw (PyProof.Rows.args_cons (thn (h.run c q H1 x1 pins s I) fun u s1 ⟨y, H2, I2, ry, H3, x3, q⟩ => PyProof.Rows.args_nil ?_) he2) he hpl hall hnone
  refine thn (hk.run c q H2 x3 pos pins s1 I2) fun ws s2 ⟨zs, H4, I4, rz, H5, x5, ez, l, xs, kk, ey, hs, hal, hsk, hL, hdp, ht, q9⟩ => ?_
  subst ez ey
  obtain rfl : u = Value.ref l := ry
  cases rz with
  | cons r0 r1 =>
    cases r1
    cases r0
    rw [hks]
    have rm := (c.mono hkj).room
    refine sortedI (b := false) (f := .ref f) kk I4 x5 hs hal hsk hL (fun v hv => by have := rm.un; have := hdp v hv; omega) (PyProof.Rows.ksk_s1 _ _) (fun _ => PyProof.Rows.ksk_l1 _ _) (fun _ => PyProof.Rows.ksk_t1 _ _) (fun v u hv hr pins' s' H' I' x' => ?_) q9
    exact run_keyed F rm.in1.in1 c.gd rfl hb I' hr (ht v hv H' x')
end
/-! ## xs[::-1] -/
theorem vals_rev {xs : List V} {us : List Value} (h : Vals xs us) : Vals xs.reverse us.reverse := Vals.rev h
section
variable {X : Cx} {j : Nat} {W : WX} {e st : Expr} {σ : St} {H H1 : Hp} {Q : VK} {pos p2 : Pos} {to ts : RX}
def rRev (K : PySem.W.Frag) (to ts : RX) : RX := fun σ H Q W => to σ H (fun x H1 => ts σ H1 (fun y H2 => y = .int (-1) ∧ ∃ a xs, x = .ref a ∧ SqL K H2 a xs ∧ ∀ p, H2 p = none → Q (.ref p) (upd H2 p (.lst xs.reverse))) W) W
theorem s_rev (h : SX X j to e) (hs : SX X j ts st) : SX X j (rRev X.K to ts) (.Subscript e (.Slice none none (some st) p2) pos) := by
  refine ⟨fun c σ H Q q H1 x1 pins s I => ?_⟩
  refine Subscript_ (thn (h.run c q H1 x1 pins s I) fun v s1 ⟨x, H2, I2, r2, H3, x3, q⟩ => ?_)
  refine wpAny_Slice ?_
  rw [evalPart_none]
  refine wpAny_pure (wpAny_pure ?_)
  rw [evalPart_some]
  refine thn (hs.run c q H2 x3 pins s1 I2) fun u s2 ⟨y, H4, I4, r4, H5, x5, ey, a, xs, ex, hsq, q9⟩ => ?_
  subst ex ey
  obtain ⟨tk, rfl⟩ := r4
  obtain rfl : v = Value.ref a := r2
  obtain ⟨its, rv, ht, hz⟩ := I4.list (x5.sqL hsq)
  have hlen := rv.length
  have I6 : Inv X pins σ H4 { s2 with heap := s2.heap.push { cls := .type "slice", data := .fields #[.none, .none, .int (-1) tk] } } := I4.kept (t' := s2.toks) fun b ob q => Heap.get?_push_of_some _ q
  obtain ⟨its2, rv2, ht2, hz2⟩ := I6.list (x5.sqL hsq)
  show wpAny (model X.prog X.w) X.A (subscriptTail e (.Slice none none (some st) p2) (.ref a) (.ref s2.heap.objs.size)) (EP X pins σ (up Q)) X.xe { s2 with heap := s2.heap.push { cls := .type "slice", data := .fields #[.none, .none, .int (-1) tk] } }
  refine tail_any (ops := [.ref a, .ref s2.heap.objs.size]) ht2.isList.typeIs slot_list_getitem.lookup ?_ (by with_unfolding_all rfl)
  refine wpAny_getItem_list_slice ht2.isList (Heap.IsSliceOf.new ..) .none .none (.int (-1) tk) (by simp) ?_ (by rw [List.size_toArray]; have := rv2.length; omega)
  rw [PySem.W.krv_pick]
  have er : its2.toArray.toList.reverse.toArray = its2.reverse.toArray := by simp
  rw [er]
  refine ⟨.ref _, upd H4 _ (.lst xs.reverse), I6.laid (t' := s2.toks) (o := .lst xs.reverse) (fun b ob q => Heap.get?_push_of_some _ q) (Nat.le_refl _) ?_, rfl, _, x5.set _ _, q9 _ (x5.free (I6.hok.fresh (Nat.le_refl _)))⟩
  exact ⟨by rw [List.length_reverse]; exact hz, _, 0, vals_rev rv2, Heap.get?_push_size _ rfl⟩
end
/-! ## x != y of two instances of a class with its own ==, without its own != -/
section
variable {prog : Program} {w : World} {A : Around} {E : Value → Shared → Prop} {s : Shared} {K : PySem.W.Frag} {x y C L f : Addr} {h₀ : Heap} {m : Str → Option Value} {ox oy : Obj} {od od' : Option Obj}
theorem ifBound_slot {M : Model} {name : Str} {T id : String} {args : List Value} {Q : Option Value → Shared → Prop} (S : PySem.Slot T name id) (X : K.In s.heap) (I : PySem.W.InstAt s.heap x ox C od) (hs : PySem.W.findIn K (.ref C) name = some (some (.builtin id)))
    (h : wpAny M A (call (.builtin id) (.ref x :: args)) (fun v => Q (some v)) E s) : wpAny M A (callSpecialIfBound? (.ref x) name args) Q E s := by
  simp only [callSpecialIfBound?, bindSpecialIfBound?]
  refine wpAny_holding (wpAny_bind (wpAny_bind (wpAny_bind (I.type.here ((PySem.W.looks_findIn X hs).here ?_)))))
  refine wpAny_bind (wpAny_askSetting (wpAny_ite ?_))
  have fin : wpAny M A (call (.builtin id) ([.ref x] ++ args) >>= fun v => pure (some v)) Q E s := wpAny_bind (wpAny_mono h (fun v s' h' => wpAny_pure h') fun _ _ h' => h')
  split
  · rw [S.bind]
    exact wpAny_bind (wpAny_pure (wpAny_pure (by exact fin)))
  · rw [S.bind]
    exact wpAny_tryCatch (wpAny_bind (wpAny_pure (wpAny_pure (by exact fin))))
open Builtin in
theorem objNe_K {Q : PySem.Fin → Shared → Prop} (hu : A.units < cLine) (X : K.In s.heap) (I : PySem.W.InstAt s.heap x ox C od) (hs : PySem.W.findIn K (.ref C) "__eq__" = some (some (.ref f))) (hf : PySem.W.isFn K (.ref f) = true)
    (hcall : wpAny (model prog w) A (call (.ref f) [.ref x, .ref y]) (fun v s' => ∃ b, v = .bool b ∧ Q (.done (.ret (.bool (!b)))) s') E s) : wpAny (model prog w) A (Builtin.«object.__ne__» ⟨[.ref x, .ref y], []⟩) Q E s := by
  unfold Builtin.«object.__ne__»
  repeat (first
    | with_reducible refine wpAny_cRoomFor hu ?_
    | (refine wpAny_bind (m := callSpecialIfBound? (.ref x) (Str.ofString "__eq__") [.ref y])
        (PySem.W.ifBound_K X I hs hf (wpAny_mono hcall (fun r s' hr => by
          obtain ⟨b, rfl, hq⟩ := hr
          repeat (first | exact hq | exact wpAny_pure hq | exact wpAny_truthy_bool hq | (refine wpAny_bind (m := truthy (.bool _)) (wpAny_truthy_bool ?_)) | wp_step)) fun _ _ e => e)))
    | wp_step)
theorem ne_K {Q : Value → Shared → Prop} (hu : A.units + 1 < cLine) (F : PyProof.Rows.Fr h₀ L s.heap m) (X₀ : K.In h₀) (I : PySem.W.InstAt s.heap x ox C od) (I' : PySem.W.InstAt s.heap y oy C od') (hne : PySem.W.findIn K (.ref C) "__ne__" = some (some (.builtin "object.__ne__"))) (hob : PySem.W.subIn K (.ref C) (.type "object") = some true)
    (hs : PySem.W.findIn K (.ref C) "__eq__" = some (some (.ref f))) (hf : PySem.W.isFn K (.ref f) = true)
    (h : wpAny (model prog w) A.in1 (call (.ref f) [.ref x, .ref y]) (fun v s' => ∃ r, v = .bool r ∧ Q (.bool (!r)) s') E s) : wpAny (model prog w) A (richCompare .NotEq (.ref x) (.ref y)) Q E s := by
  have X := X₀.keeps F.keep
  have one : wpAny (model prog w) A (tryCompare (.ref x) "__ne__" (.ref y)) (fun r s' => ∃ v, r = some v ∧ Q v s') E s := by
    unfold tryCompare
    refine wpAny_bind (ifBound_slot PySem.F.cmp_object.ne X I hne ?_)
    refine wpAny_call (codeAny_call_builtin PySem.F.cmp_object.ne.plain PySem.F.cmpEntry_ne (PySem.W.check_slot PySem.F.cmpKind_ne PySem.F.cmpSplit_ne (I.type.andThen (PySem.W.looks_subIn X hob)) (PySem.F.cmpArgs_ne _ _) ?_))
    refine objNe_K (A := A.in1) hu X I hs hf (wpAny_mono h (fun v s' hv => ?_) fun _ _ e => e)
    obtain ⟨r, rfl, hq⟩ := hv
    first | exact ⟨r, rfl, wpAny_pure ⟨_, rfl, hq⟩⟩ | exact ⟨r, rfl, wpAny_pure (wpAny_pure ⟨_, rfl, hq⟩)⟩ | exact ⟨r, rfl, ⟨_, rfl, hq⟩⟩
  unfold richCompare
  simp only [oneThing_ref]
  refine wpAny_holding (wpAny_bind (wpAny_cRoomFor (by omega) ?_))
  rw [cmpInfo_NotEq]
  dsimp only
  refine wpAny_bind (I.type.here (wpAny_bind (I'.type.here ?_)))
  rw [show (Value.ref C != Value.ref C) = false from by simp]
  simp only [Bool.false_eq_true, if_false]
  refine wpAny_bind (wpAny_pure ?_)
  simp only [Bool.false_eq_true, if_false]
  refine wpAny_bind (wpAny_mono one (fun r s' z => ?_) fun _ _ e => e)
  obtain ⟨v, rfl, hq⟩ := z
  first | exact wpAny_pure hq | exact wpAny_pure (wpAny_pure hq)
end
section
variable {X : Cx} {j : Nat} {C : Addr} {k : Nat}
def oNeO (C : Addr) (sp : Sp) : RO := fun x y H Q => ∃ a dx fs b dy gs, x = .ref a ∧ y = .ref b ∧ H a = some (.ins C dx fs) ∧ H b = some (.ins C dy gs) ∧ sp [x, y] H (fun v H2 => ∃ r, v = .bl r ∧ Q (.bl (!r)) H2) fun _ _ _ => False
/-- what != asks of a class without its own one -/
structure NeC (K : PySem.W.Frag) (C : Addr) : Prop where
  ne : PySem.W.findIn K (.ref C) "__ne__" = some (some (.builtin "object.__ne__"))
  ob : PySem.W.subIn K (.ref C) (.type "object") = some true
theorem o_neO {sp : Sp} {ps : List Str} (Cm : CalM X.prog X.w X.K X.mg X.base C "__eq__" k ps [] sp) (N : NeC X.K C) (hkj : k + 1 ≤ j := by decide) : SOc X j (compareOp .NotEq) (oNeO C sp) := by
  obtain ⟨f, fd, ds, F, hmt, hb, hd⟩ := Cm.ex
  cases hd
  refine ⟨fun c x y H Q ⟨a, dx, fs, b, dy, gs, e1, e2, h1, h2, q⟩ H1 x1 pins s σ v u I r1 r2 => ?_⟩
  subst e1 e2
  obtain rfl : v = Value.ref a := r1
  obtain rfl : u = Value.ref b := r2
  obtain ⟨m, od, hF, J⟩ := inst_of I (x1 _ _ h1)
  obtain ⟨m', od', hF', J'⟩ := inst_of I (x1 _ _ h2)
  have rm := (c.mono hkj).room
  refine ne_K (by have := rm.un; omega) hF I.ok.mod.kin J J' N.ne N.ob hmt.at_ hmt.fn ?_
  refine wpAny_mono (run_fngA (W := fun _ _ _ _ => False) (A := X.A.in1) (us := [.ref a, .ref b]) (vs := [.ref a, .ref b]) F rm.in1 c.gd rfl (c.tk.imp fun cl d σ H ⟨_, _, z⟩ => z.elim) hb I x1 (.cons rfl (.cons rfl .nil)) q) (fun v s' ⟨z, H4, I4, rz, H5, x5, r, ez, qz⟩ => ?_) fun _ _ x => x
  subst ez
  cases rz
  exact ⟨r, rfl, .bl _, H4, I4, rfl, H5, x5, qz⟩
end
/-! ## what waits when some versions have arrived, one by one -/
structure Due (cap : Nat) (some kept : List Int) : Prop where
  small : some.length ≤ cap → kept = some
  great : cap < some.length → ∃ ks l d, some = d ++ [l] ∧ kept = ks ++ [l] ∧ Kd (fun u => u ∈ d) (cap - 1) ks
theorem Due.self {cap : Nat} {some : List Int} (h : some.length ≤ cap) : Due cap some some := ⟨fun _ => rfl, fun z => by omega⟩
theorem Due.uniq {cap : Nat} {some k1 k2 : List Int} (nn : ∀ u ∈ some, 0 ≤ u) (a : Due cap some k1) (b : Due cap some k2) : k1 = k2 := by
  by_cases h : some.length ≤ cap
  · rw [a.small h, b.small h]
  · obtain ⟨ks, l, d, e1, e2, kd⟩ := a.great (by omega)
    obtain ⟨ks', l', d', e1', e2', kd'⟩ := b.great (by omega)
    obtain ⟨rfl, e⟩ := List.append_inj' (e1.symm.trans e1') rfl
    have e : l = l' := by simpa using e
    subst e
    rw [e2, e2', kd.uniq (fun u hu => nn u (by rw [e1]; exact List.mem_append_left _ hu)) kd']
theorem Due.sub {cap : Nat} {some kept : List Int} (a : Due cap some kept) : ∀ v ∈ kept, v ∈ some := fun v hv => by
  by_cases h : some.length ≤ cap
  · rw [a.small h] at hv; exact hv
  · obtain ⟨ks, l, d, e1, e2, kd⟩ := a.great (by omega)
    rw [e2] at hv
    rw [e1]
    rcases List.mem_append.mp hv with z | z
    · exact List.mem_append_left _ (kd.sub v z)
    · exact List.mem_append_right _ z
theorem Due.len {cap : Nat} {some kept : List Int} (c : 1 ≤ cap) (a : Due cap some kept) : kept.length ≤ cap := by
  by_cases h : some.length ≤ cap
  · rw [a.small h]; exact h
  · obtain ⟨ks, l, d, e1, e2, kd⟩ := a.great (by omega)
    rw [e2, List.length_append, kd.len]
    simp
    omega
theorem Due.pw {cap : Nat} {some kept : List Int} (p : some.Pairwise (· < ·)) (a : Due cap some kept) : kept.Pairwise (· < ·) := by
  by_cases h : some.length ≤ cap
  · rw [a.small h]; exact p
  · obtain ⟨ks, l, d, e1, e2, kd⟩ := a.great (by omega)
    rw [e2]
    rw [e1] at p
    exact append_lt kd.pw fun v hv => (List.pairwise_append.mp p).2.2 v (kd.sub v hv) l (by simp)
theorem due_push {cap : Nat} {some kept : List Int} {v : Int} (c2 : 2 ≤ cap) (c9 : cap ≤ 9) (pw : (some ++ [v]).Pairwise (· < ·)) (nn : ∀ u ∈ some, 0 ≤ u) (v0 : 0 ≤ v) (D : Due cap some kept) : Due cap (some ++ [v]) (aftR kept v v cap) := by
  have lt : ∀ u ∈ some, u < v := fun u hu => (List.pairwise_append.mp pw).2.2 u hu v (by simp)
  have pws := (List.pairwise_append.mp pw).1
  have klen := D.len (by omega)
  have kpw := D.pw pws
  have k : WOk kept v cap := ⟨c2, c9, klen, v0, fun u hu => by
    have := D.sub u hu
    have := nn u this
    have := lt u (D.sub u hu)
    omega⟩
  have e1 : rgI v v = [v] := by
    unfold rgI
    have e : (v - v + 1).toNat = 1 := by omega
    rw [e]
    simp
  by_cases h : some.length + 1 ≤ cap
  · rw [D.small (by omega)]
    rw [aftR_small (by omega), e1]
    exact .self (by simp; omega)
  · by_cases h2 : some.length ≤ cap
    · have ek := D.small h2
      subst ek
      obtain ⟨ks, e, kd⟩ := aftR_great k kpw (Int.le_refl _) (by omega)
      refine ⟨fun z => by simp at z; omega, fun _ => ⟨ks, v, _, rfl, e, kd.len, kd.pw, fun u hu => (kd.sub u hu).resolve_right (by omega), fun u hu nu x hx => kd.out u (.inl hu) nu x hx⟩⟩
    · obtain ⟨ks, l, d, e2, e3, kd⟩ := D.great (by omega)
      have kl : kept.length = cap := by rw [e3, List.length_append, kd.len]; simp; omega
      obtain ⟨ls, e, ld⟩ := aftR_great k kpw (Int.le_refl _) (by omega)
      have lsub : ∀ u ∈ ls, u ∈ kept := fun u hu => (ld.sub u hu).resolve_right (by omega)
      have kn : ∀ u ∈ kept, 0 ≤ u := fun u hu => nn u (D.sub u hu)
      refine ⟨fun z => by simp at z; omega, fun _ => ⟨ls, v, some, rfl, e, ld.len, ld.pw, fun u hu => D.sub u (lsub u hu), fun u hu nu x hx => ?_⟩⟩
      by_cases uk : u ∈ kept
      · exact ld.out u (.inl uk) nu x hx
      · have ud : u ∈ d := by
          rw [e2] at hu
          refine (List.mem_append.mp hu).resolve_right fun z => uk ?_
          rw [e3]
          exact List.mem_append_right _ z
        have uks : u ∉ ks := fun z => uk (by rw [e3]; exact List.mem_append_left _ z)
        have xk := lsub x hx
        rw [e3] at xk
        rcases List.mem_append.mp xk with z | z
        · exact kd.out u ud uks x z
        · have xl : x = l := by simpa using z
          subst xl
          obtain ⟨y, hy, ny⟩ : ∃ y ∈ kept, y ∉ ls := Classical.byContradiction fun hh => by
            have := nodup_len (l := kept) (m := ls) (lt_nodup kpw) fun y hy => Classical.byContradiction fun z => hh ⟨y, hy, z⟩
            rw [kl, ld.len] at this
            omega
          have yk : y ∈ ks := by
            have hy2 := hy
            rw [e3] at hy2
            exact (List.mem_append.mp hy2).resolve_right fun z => ny (by
              have : y = x := by simpa using z
              rw [this]; exact hx)
          exact precB_tr (kn x (lsub x hx)) (kn y hy) (nn u hu) (ld.out y (.inl hy) ny x hx) (kd.out u ud uks y yk)
/-- a whole range -/
theorem due_range {cap : Nat} {some kept : List Int} {lo : Int} (c2 : 2 ≤ cap) (c9 : cap ≤ 9) (l0 : 0 ≤ lo) (pw : some.Pairwise (· < ·)) (nn : ∀ u ∈ some, 0 ≤ u ∧ u < lo) (D : Due cap some kept) : ∀ (n : Nat), Due cap (some ++ rgI lo (lo + n)) (aftR kept lo (lo + n) cap)
  | 0 => by
    have e1 : rgI lo (lo + (0 : Nat)) = [lo] := by
      unfold rgI
      have e : (lo + ((0 : Nat) : Int) - lo + 1).toNat = 1 := by omega
      rw [e]
      simp
    rw [e1]
    have e0 : lo + ((0 : Nat) : Int) = lo := by omega
    rw [e0]
    exact due_push c2 c9 (append_lt pw fun u hu => (nn u hu).2) (fun u hu => (nn u hu).1) l0 D
  | n + 1 => by
    have ih := due_range c2 c9 l0 pw nn D n
    have e0 : lo + ((n + 1 : Nat) : Int) = lo + (n : Int) + 1 := by omega
    rw [e0, rgI_succ (by omega), ← List.append_assoc]
    have k : WOk kept lo cap := ⟨c2, c9, D.len (by omega), l0, fun u hu => by have := nn u (D.sub u hu); omega⟩
    rw [aft_step k (D.pw pw) (by omega)]
    refine due_push c2 c9 ?_ (fun u hu => ?_) (by omega) ih
    · refine append_lt (List.pairwise_append.mpr ⟨pw, rgI_pw _ _, fun a ha b hb => ?_⟩) fun u hu => ?_
      · have := nn a ha
        have := rgI_mem.mp hb
        omega
      · rcases List.mem_append.mp hu with z | z
        · have := nn u z; omega
        · have := rgI_mem.mp z; omega
    · rcases List.mem_append.mp hu with z | z
      · exact (nn u z).1
      · have := rgI_mem.mp z; omega
section
variable {n m : Nat} {G : Hp → Prop} {elt : RX} {σ : St} {H : Hp} {Q : VK} {xs : List V}
/-- as lc_grow; the new item is told without the list that grows -/
theorem lc_grow2 (P : Nat → V → Hp → Prop) (mono : ∀ i y H1 H2, Ex H1 H2 → P i y H1 → P i y H2) (hn : xs.length < 100000) (hG : ∀ H', Ex H H' → G H')
    (turn : ∀ (i : Nat) x d acc H' (R : VK), xs[i]? = some x → Ex H H' → H' d = none → (∀ y H5, Ex (upd H' d (.lst acc)) H5 → P i y (del H5 d) → R y H5) → elt (put (wipe σ [m]) m x) (upd H' d (.lst acc)) R noW)
    (done : ∀ ys q H', Ex H H' → ys.length = xs.length → (∀ i y, ys[i]? = some y → P i y H') → H' q = none → Q (.ref q) (upd H' q (.lst ys))) : LcB xs.length G (yAt xs) (gName m) tY elt [m] σ H Q :=
  lcB (fun i acc H' => Ex H H' ∧ acc.length = i ∧ ∀ k y, acc[k]? = some y → P k y H') ⟨Ex.refl _, rfl, fun _ _ z => by simp at z⟩ (fun i acc H' hi p => ⟨hG _ p.1, by have := p.2.1; omega⟩) (fun i acc H' d hi p nd => by
    obtain ⟨x1, hl, hp⟩ := p
    intro x hx
    refine ⟨wipe_put, fun _ => turn i x d _ _ _ hx x1 nd fun y H5 x5 h5 => ?_, fun z => nomatch z⟩
    have e5 : H5 d = some (.lst acc) := x5 _ _ upd_same
    have x6 : Ex H' (del H5 d) := fun b o e => by
      have nb : b ≠ d := ne_of_none e nd
      rw [del_ne nb]
      exact x5 _ _ (by rw [upd_ne nb]; exact e)
    refine ⟨del H5 d, del_same, fun b o e => ?_, x1.trans x6, by simp [hl], fun k y' hk => ?_⟩
    · by_cases z : b = d
      · subst z; rw [upd_same] at e; cases e; exact e5
      · rw [upd_ne z, del_ne z] at e; exact e
    by_cases hk2 : k < acc.length
    · exact mono _ _ _ _ x6 (hp k y' (by rwa [List.getElem?_append_left hk2] at hk))
    · rw [List.getElem?_append_right (by omega)] at hk
      have : k - acc.length = 0 := by
        cases e : k - acc.length with
        | zero => rfl
        | succ j => rw [e] at hk; simp at hk
      have e : k = i := by omega
      subst e
      rw [this] at hk
      simp at hk
      subst hk
      exact h5) fun acc H' q p nq => by
    obtain ⟨x1, hl, hp⟩ := p
    exact done acc q H' x1 hl hp nq
end
/-! ## for over a range of great ints -/
theorem turn_long {P : Program} {w : World} {K : PySem.W.Frag} {tg : Expr} (it : Addr) (lo : Int) (n : Nat) : L2.Turn P w K tg (Itr lo n) [it] it (fun i h => LR.IsLong h it (lo + (i : Nat) * 1) ((n : Int) - (i : Nat)) 1) where
  mem := by simp
  obj := fun i h st b hb => by
    have e : b = it := by simpa using hb
    subst e
    exact ⟨_, st, fun v z => by
      have z' : Data.fields _ = Data.cell v := z
      cases z'⟩
  keep := fun i h h' st k => k it (by simp) _ st
  item := by
    intro X hP hw hK hc i pins s σ H E I hf st hg
    subst hP hw hK
    obtain ⟨f0, f1, f2, f3, f4, f5⟩ := hf it (by simp)
    have W := LR.walks (prog := X.prog) (w := X.w) (I.ok.hd hc) it lo 1 n
    refine W.item i s _ _ hg st fun v h' tk hv st' kk => ?_
    obtain ⟨t, rfl⟩ := hv
    have I1 : Inv X pins σ H { s with heap := h', toks := tk } := I.turned (fun b o hb e => kk b o (by simpa using hb) e) f0 f1 f3 f4 f5
    refine ⟨_, rfl, go_of (s := { s with heap := h', toks := tk }) (n := "longrange_iterator") st' rfl rfl (by decide) ⟨.int (lo + i), H, I1, ⟨t, ?_⟩, ⟨rfl, rfl⟩, st', fun b hb => (hf b hb).1⟩⟩
    rw [Int.mul_one]
  done := by
    intro X hP hw hK hc i pins s σ H E I hf st hg
    subst hP hw hK
    obtain ⟨f0, f1, f2, f3, f4, f5⟩ := hf it (by simp)
    exact LR.pyNext_end (I.ok.hd hc) st (by have : n ≤ i := hg; omega) fun h' eb => ⟨rfl, I.turned (t' := s.toks) (fun b o hb e => eb b o hb e) f0 f1 f3 f4 f5⟩
  self := fun _ _ _ _ _ st h => LR.pyIter_long st h
section
variable {X : Cx} {j : Nat} {tg a b : Expr} {p pos : Pos} {tr : RA}
theorem range_itL {pins : List (Addr × Obj)} {σ : St} {H : Hp} {s : Shared} {R : It → Hp → Prop} {E : Value → Shared → Prop} {lo hi : Int} {t u v : Tok} {tk : Nat} (I : Inv X pins σ H s)
    (q : R (Itr lo (hi - lo).toNat) H) : wpAny (model X.prog X.w) X.A (pyIter (.ref s.heap.objs.size)) (PIE X pins σ tg R) E { s with heap := s.heap.push { cls := .type "range", data := .fields #[.int lo t, .int hi u, .int 1 v] }, toks := tk } := by
  have I1 : Inv X pins σ H { s with heap := s.heap.push { cls := .type "range", data := .fields #[.int lo t, .int hi u, .int 1 v] }, toks := tk } := I.kept fun b o e => Heap.get?_push_of_some _ e
  have e1 : lo + ((0 : Nat) : Int) * 1 = lo := by simp
  have e2 : (((hi - lo).toNat : Nat) : Int) - ((0 : Nat) : Int) = Builtin.Range.rangeSize lo hi 1 := by rw [rangeSize_one]; split <;> omega
  have ff : ∀ b ∈ [(s.heap.push { cls := .type "range", data := .fields #[.int lo t, .int hi u, .int 1 v] }).objs.size], FpOk X pins H b := fun b hb => by
    have e : b = (s.heap.push { cls := .type "range", data := .fields #[.int lo t, .int hi u, .int 1 v] }).objs.size := by simpa using hb
    subst e
    exact I1.fpOk (Nat.le_refl _) (I1.hok.fresh (Nat.le_refl _))
  cases hs : Builtin.Range.small lo hi 1 with
  | true =>
    refine wpAny_pyIter_range (IsRange.new ..) hs ?_
    refine ⟨_, [(s.heap.push { cls := .type "range", data := .fields #[.int lo t, .int hi u, .int 1 v] }).objs.size], _, _, H, rfl, I1.kept (t' := tk) fun b o e => Heap.get?_push_of_some _ e, turn_range _ lo (hi - lo).toNat, ?_, ff, q⟩
    show IsRangeIter _ _ (lo + ((0 : Nat) : Int) * 1) ((((hi - lo).toNat : Nat) : Int) - ((0 : Nat) : Int)) 1
    rw [e1, e2]
    exact Heap.get?_push_size _ rfl
  | false =>
    refine LR.pyIter_range (IsRange.new ..) hs ?_
    refine ⟨_, [(s.heap.push { cls := .type "range", data := .fields #[.int lo t, .int hi u, .int 1 v] }).objs.size], _, _, H, rfl, I1.kept (t' := tk) fun b o e => Heap.get?_push_of_some _ e, turn_long _ lo (hi - lo).toNat, ?_, ff, q⟩
    show LR.IsLong _ _ (lo + ((0 : Nat) : Int) * 1) ((((hi - lo).toNat : Nat) : Int) - ((0 : Nat) : Int)) 1
    rw [e1, e2]
    exact Heap.get?_push_size _ rfl
def iRngL (ta : TA) : TI := fun σ H R => ta σ H fun vs H1 => ∃ i j : Int, vs = [.int i, .int j] ∧ R (Itr i (j - i).toNat) H1
theorem pi_rangeL {ta : TA} (hg : Gl X "range") (hm : X.mg "range" = none) (ha : PA X [a, b] ta) (hs : starEach [a, b] X.env = [(false, eval a X.env), (false, eval b X.env)] := by rfl) (hs2 : starEach [b] X.env = [(false, eval b X.env)] := by rfl) :
    PI X tg (.Call (.Name "range" p) [a, b] [] pos) (iRngL ta) := by
  refine ⟨fun pins s σ H R I h => ?_⟩
  refine Call_ (ld_blt I hg hm boot_range (PyProof.Rows.callWith_type1 (thn (ha.run pos pins s σ H _ I h) fun us s1 ⟨vs, H1, I1, r1, q1⟩ => ?_) (by rw [hs, hs2]) (by rw [hs2]; rfl)))
  obtain ⟨i, j, e, q⟩ := q1
  subst e
  cases r1 with
  | cons r rr =>
    cases rr with
    | cons r' rr =>
      cases rr
      obtain ⟨t, rfl⟩ := r
      obtain ⟨t', rfl⟩ := r'
      exact call_range_2 (range_itL I1 q)
/-- range(l, n), ints of any size -/
def iRL (t : RA) : RI := fun σ H R W => t σ H (fun vs H1 => match vs with
  | [.int l, .int n] => R (n - l).toNat (fun _ => True) (yRg l) H1
  | _ => False) W
theorem i_RL (hm : X.mg "range" = none) (h : SA X j tr [a, b]) (hg : Gl X "range" := by rfl) (hs : starEach [a, b] X.env = [(false, eval a X.env), (false, eval b X.env)] := by rfl) (hs2 : starEach [b] X.env = [(false, eval b X.env)] := by rfl) : SIt X j (iRL tr) tg (.Call (.Name "range" p) [a, b] [] pos) :=
  ⟨_, pi_rangeL hg hm pa_W hs hs2, fun c σ H R q H1 x F k => (h.run c q).t x fun vs H2 ⟨H3, x3, q⟩ => by
    match vs, q with
    | [.int l, .int n], q => exact ⟨l, n, rfl, k _ _ _ _ _ _ x3 ⟨_, _, walk_range, fun _ _ _ _ => trivial, fun i H H1 x H1' K hi e y q => by
        obtain ⟨rfl, rfl⟩ := y
        exact ⟨H, e, q⟩⟩ q⟩⟩
end
/-! ## a list times an int; membership of data -/
section
variable {X : Cx} {j : Nat} {a b : Expr} {ta tb : RX} {pos : Pos}
def oRepL : RO := fun x y H Q => ∃ l k xs, x = .ref l ∧ y = .int k ∧ H l = some (.lst xs) ∧ -1000000 ≤ k ∧ k ≤ 1000000 ∧ xs.length * k.toNat ≤ 1000000 ∧ ∀ p, H p = none → Q (.ref p) (upd H p (.lst (List.replicate k.toNat xs).flatten))
theorem o_repL : SO X (binaryOp .Mult) oRepL := .of op_rep fun x y H Q ⟨l, k, xs, e1, e2, h, h1, h2, h3, q⟩ H1 x => ⟨l, k, xs, e1, e2, x _ _ h, by omega, by omega, Nat.le_trans h3 (by decide), fun p n => ⟨_, x.set p _, q p (x.free n)⟩⟩
def SOr3 (X : Cx) (f : Value → Value → Sem Value) (r : RO) : Prop := X.A.units + 150 < cLine → SO X f r
theorem Room.units3 {k : Nat} {A : Around} (r : Room k A) : A.units + 150 < cLine := by have := r.un; omega
theorem b_cmpr3 {op : CmpOp} {r : RO} (ho : SOr3 X (compareOp op) r) (ha : SX X j ta a) (hb : SX X j tb b) (hm : behindInMarks op b = false := by first | exact nomark _ | with_unfolding_all rfl) : SB X j (tCmp r ta tb) (.Compare a [op] [b] pos) :=
  ⟨fun c _ _ _ h => (b_cmp (ho (Room.units3 c.room)) ha hb hm).run c h⟩
theorem s_cmpr3 {op : CmpOp} {r : RO} (ho : SOr3 X (compareOp op) r) (ha : SX X j ta a) (hb : SX X j tb b) (hm : behindInMarks op b = false := by first | exact nomark _ | with_unfolding_all rfl) : SX X j (rBin r ta tb) (.Compare a [op] [b] pos) :=
  ⟨fun c _ _ _ h => (s_cmp (ho (Room.units3 c.room)) ha hb hm).run c h⟩
/-- membership in a list or tuple of data -/
def oInDD (K : PySem.W.Frag) : RO := fun x y H Q => ∃ d ds, Dp K H x d ∧ (Dp K H y (.list ds) ∧ SeqAt.shaped (.list ds) = true ∨ Dp K H y (.tuple ds) ∧ SeqAt.shaped (.tuple ds) = true) ∧ SeqAt.shaped d = true ∧ Q (.bl (ds.any fun z => PyData.eqv z d)) H
def oNiDD (K : PySem.W.Frag) : RO := fun x y H Q => ∃ d ds, Dp K H x d ∧ (Dp K H y (.list ds) ∧ SeqAt.shaped (.list ds) = true ∨ Dp K H y (.tuple ds) ∧ SeqAt.shaped (.tuple ds) = true) ∧ SeqAt.shaped d = true ∧ Q (.bl (!ds.any fun z => PyData.eqv z d)) H
theorem o_inDD : SOr3 X (compareOp .In) (oInDD X.K) := fun hu x y H Q ⟨d, ds, hd, he, sd, q⟩ H1 e pins s σ v u I rx ry => by
  obtain ⟨as, r1⟩ := Dp.reads I d x v (Dp.ex e hd) rx
  rcases he with ⟨he, se⟩ | ⟨he, se⟩
  · obtain ⟨bs, r2⟩ := Dp.reads I (.list ds) y u (Dp.ex e he) ry
    exact SeqAt.in_list_reads r2 r1 (SeqAt.canLay_of_shaped se) (SeqAt.canLay_of_shaped sd) (room_in_shaped sd (by omega)) ⟨.bl _, H1, I, rfl, H, e, q⟩
  · obtain ⟨bs, r2⟩ := Dp.reads I (.tuple ds) y u (Dp.ex e he) ry
    exact SeqAt.in_tuple_reads r2 r1 (SeqAt.canLay_of_shaped se) (SeqAt.canLay_of_shaped sd) (room_in_shaped sd (by omega)) ⟨.bl _, H1, I, rfl, H, e, q⟩
theorem o_niDD : SOr3 X (compareOp .NotIn) (oNiDD X.K) := fun hu x y H Q ⟨d, ds, hd, he, sd, q⟩ H1 e pins s σ v u I rx ry => by
  obtain ⟨as, r1⟩ := Dp.reads I d x v (Dp.ex e hd) rx
  rcases he with ⟨he, se⟩ | ⟨he, se⟩
  · obtain ⟨bs, r2⟩ := Dp.reads I (.list ds) y u (Dp.ex e he) ry
    exact SeqAt.notIn_list_reads r2 r1 (SeqAt.canLay_of_shaped se) (SeqAt.canLay_of_shaped sd) (room_in_shaped sd (by omega)) ⟨.bl _, H1, I, rfl, H, e, q⟩
  · obtain ⟨bs, r2⟩ := Dp.reads I (.tuple ds) y u (Dp.ex e he) ry
    exact SeqAt.notIn_tuple_reads r2 r1 (SeqAt.canLay_of_shaped se) (SeqAt.canLay_of_shaped sd) (room_in_shaped sd (by omega)) ⟨.bl _, H1, I, rfl, H, e, q⟩
end
/-! ## comprehensions over ints -/
section
variable {n m : Nat} {G : Hp → Prop} {Y : Nat → Hp → VK → Prop} {g : RG} {elt : RX} {vs : List Nat} {σ : St} {H : Hp} {Q : VK} {xs : List V} {lo : Int}
theorem lc_ints {tc : RT} {ns : List Int} (f : Int → Bool) (gx : Int → V) (hn : ns.length < 100000) (hG : G H)
    (turn : ∀ (x : Int) d acc (R : Bool → Hp → Prop), x ∈ ns → H d = none → (∀ H5, Ex (upd H d (.lst acc)) H5 → R (f x) H5) → tc (put (wipe σ [m]) m (.int x)) (upd H d (.lst acc)) R noW)
    (item : ∀ (x : Int) d acc H4 (R : VK), x ∈ ns → f x = true → H d = none → Ex (upd H d (.lst acc)) H4 → (∀ H5, Ex (upd H d (.lst acc)) H5 → R (gx x) H5) → elt (put (wipe σ [m]) m (.int x)) H4 R noW)
    (done : ∀ q, H q = none → Q (.ref q) (upd H q (.lst ((ns.filter f).map gx)))) : LcB (ns.map V.int).length G (yAt (ns.map V.int)) (gName m) tc elt [m] σ H Q := by
  refine lc_fm (fun v => f (num v)) (fun v => gx (num v)) (by rw [List.length_map]; exact hn) hG (fun i x d acc R hx nd k => ?_) (fun i x d acc H4 R hx hf nd x4 k => ?_) fun q nq => ?_
  · obtain ⟨y, hy, rfl⟩ := List.mem_map.mp (List.mem_of_getElem? hx)
    exact turn y d acc R hy nd k
  · obtain ⟨y, hy, rfl⟩ := List.mem_map.mp (List.mem_of_getElem? hx)
    exact item y d acc H4 R hy hf nd x4 k
  · have e : ((ns.map V.int).filter fun v => f (num v)).map (fun v => gx (num v)) = (ns.filter f).map gx := by
      rw [List.filter_map, List.map_map]
      rfl
    rw [e]
    exact done q nq
theorem lc_ints0 {ns : List Int} (gx : Int → V) (hn : ns.length < 100000) (hG : G H)
    (item : ∀ (x : Int) d acc (R : VK), x ∈ ns → H d = none → (∀ H5, Ex (upd H d (.lst acc)) H5 → R (gx x) H5) → elt (put (wipe σ [m]) m (.int x)) (upd H d (.lst acc)) R noW)
    (done : ∀ q, H q = none → Q (.ref q) (upd H q (.lst (ns.map gx)))) : LcB (ns.map V.int).length G (yAt (ns.map V.int)) (gName m) tY elt [m] σ H Q := by
  refine lc_at (fun i y => ∃ x, ns[i]? = some x ∧ y = gx x) (by rw [List.length_map]; exact hn) hG (fun i x d acc R hx nd k => ?_) fun ys q hl hy nq => ?_
  · rw [List.getElem?_map] at hx
    obtain ⟨y, hy, rfl⟩ := Option.map_eq_some_iff.mp hx
    exact item y d acc R (List.mem_of_getElem? hy) nd fun H5 x5 => k _ _ x5 ⟨y, hy, rfl⟩
  · have e : ys = ns.map gx := by
      refine List.ext_getElem? fun i => ?_
      rw [List.getElem?_map]
      cases h : ys[i]? with
      | none =>
        have := List.getElem?_eq_none_iff.mp h
        rw [List.length_map] at hl
        rw [List.getElem?_eq_none (by omega)]
        rfl
      | some y =>
        obtain ⟨x, hx, rfl⟩ := hy i y h
        rw [hx]
        rfl
    rw [e]
    exact done q nq
theorem lc_rgf {tc : RT} (f : Int → Bool) (gx : Int → V) (hn : n < 100000)
    (turn : ∀ (x : Int) d acc (R : Bool → Hp → Prop), lo ≤ x → x < lo + n → H d = none → (∀ H5, Ex (upd H d (.lst acc)) H5 → R (f x) H5) → tc (put (wipe σ [m]) m (.int x)) (upd H d (.lst acc)) R noW)
    (item : ∀ (x : Int) d acc H4 (R : VK), lo ≤ x → x < lo + n → f x = true → H d = none → Ex (upd H d (.lst acc)) H4 → (∀ H5, Ex (upd H d (.lst acc)) H5 → R (gx x) H5) → elt (put (wipe σ [m]) m (.int x)) H4 R noW)
    (done : ∀ q, H q = none → Q (.ref q) (upd H q (.lst (((rgI lo (lo + n - 1)).filter f).map gx)))) : LcB n (fun _ => True) (yRg lo) (gName m) tc elt [m] σ H Q :=
  lcB (fun i acc H' => H' = H ∧ acc = ((rgI lo (lo + i - 1)).filter f).map gx) ⟨rfl, by
    have e : rgI lo (lo + ((0 : Nat) : Int) - 1) = [] := List.eq_nil_iff_forall_not_mem.mpr fun x hx => by have := rgI_mem.mp hx; omega
    rw [e]; rfl⟩ (fun i acc H' hi p => by
    obtain ⟨rfl, rfl⟩ := p
    refine ⟨trivial, ?_⟩
    have h1 := List.length_filter_le f (rgI lo (lo + i - 1))
    rw [rgI_len] at h1
    rw [List.length_map]
    omega) (fun i acc H' d hi p nd => by
    obtain ⟨rfl, rfl⟩ := p
    have ht : rgI lo (lo + ((i + 1 : Nat) : Int) - 1) = rgI lo (lo + i - 1) ++ [lo + i] := by
      have := rgI_succ (lo := lo) (h := lo + i - 1) (by omega)
      rw [show lo + (i : Int) - 1 + 1 = lo + i by omega] at this
      rw [show lo + ((i + 1 : Nat) : Int) - 1 = lo + i by omega]
      exact this
    refine ⟨wipe_put, turn _ d _ _ (by omega) (by omega) nd fun H5 x5 => ⟨fun hf => item _ d _ _ _ (by omega) (by omega) hf nd x5 fun H6 x6 => ⟨H', nd, x6, rfl, ?_⟩, fun hf => ⟨H', nd, x5, rfl, ?_⟩⟩⟩
    · rw [ht, List.filter_append, List.map_append]
      simp [List.filter, hf]
    · rw [ht, List.filter_append]
      simp [List.filter, hf]) fun acc H' q p nq => by
    obtain ⟨rfl, rfl⟩ := p
    exact done q nq
end
/-! ## keys of the laws own order -/
def kyD (v : Int) : PyData := .tuple [.bool (decide (v = 0)), .int (lowb v), .int v]
theorem lowb_zero : lowb 0 = 0 := by decide
theorem lex3 (a b c a' b' c' : Int) : lexLt PyProof.Rows.itemOrd [.inl 1, .inl a, .inl 1, .inl b, .inl 1, .inl c, .inl 0] [.inl 1, .inl a', .inl 1, .inl b', .inl 1, .inl c', .inl 0] = true ↔ a < a' ∨ (a = a' ∧ (b < b' ∨ (b = b' ∧ c < c'))) := by
  have bl : ∀ x y : Int, PyProof.Rows.itemOrd.blt (.inl x) (.inl y) = decide (x < y) := fun x y => rfl
  have st : ∀ (x y : Int) (r t : List (Int ⊕ List Nat)), lexLt PyProof.Rows.itemOrd (.inl x :: r) (.inl y :: t) = true ↔ x < y ∨ (x = y ∧ lexLt PyProof.Rows.itemOrd r t = true) := fun x y r t => by
    rw [PyProof.Rows.lex_true, bl, bl, decide_eq_true_eq, decide_eq_false_iff_not]
    constructor
    · rintro (h | ⟨h, k⟩)
      · exact .inl h
      · by_cases e : x < y
        · exact .inl e
        · exact .inr ⟨by omega, k⟩
    · rintro (h | ⟨h, k⟩)
      · exact .inl h
      · exact .inr ⟨by omega, k⟩
  rw [st, st, st, st, st, st, st]
  have e0 : lexLt PyProof.Rows.itemOrd ([] : List (Int ⊕ List Nat)) [] = false := rfl
  rw [e0]
  simp
theorem ky_lt {u v : Int} (hu : 0 ≤ u) (hv : 0 ≤ v) : PySem.W.dataLt (kyD u) (kyD v) = precB v u := by
  have key : PySem.W.dataLt (kyD u) (kyD v) = true ↔ precB v u = true := by
    rw [prec_iff hv hu]
    refine (lex3 (if decide (u = 0) = true then 1 else 0) (lowb u) u (if decide (v = 0) = true then 1 else 0) (lowb v) v).trans ?_
    by_cases h1 : u = 0 <;> by_cases h2 : v = 0
    · subst h1 h2; simp
    · subst h1; simp [h2]
    · subst h2
      simp [h1]
      omega
    · simp [h1, h2]
      omega
  cases h : precB v u with
  | true => exact key.mpr h
  | false => cases h2 : PySem.W.dataLt (kyD u) (kyD v) with
    | true => rw [key.mp h2] at h; cases h
    | false => rfl
def kyV (x : V) : PyData := kyD (num x)
theorem ky_sorted {d : List Int} (nn : ∀ u ∈ d, 0 ≤ u) : ∃ ms : List Int, (d.map V.int).mergeSort (PySem.W.dataLe false kyV) = ms.map V.int ∧ ms.Perm d ∧ ms.Pairwise (fun a b => precB a b = false) := by
  have tot : PySem.W.TotalLe (PySem.W.dataLe false kyV) := PySem.W.sortLe_total _ false _
  have pm := List.mergeSort_perm (d.map V.int) (PySem.W.dataLe false kyV)
  have pw := List.pairwise_mergeSort (le := PySem.W.dataLe false kyV) (fun a b c => tot.trans a b c) (fun a b => by simpa using tot.total a b) (d.map V.int)
  generalize (d.map V.int).mergeSort (PySem.W.dataLe false kyV) = M at pm pw
  have eM : M = (M.map num).map V.int := by
    rw [List.map_map]
    refine (List.map_id M).symm.trans (List.map_congr_left fun x hx => ?_)
    obtain ⟨y, hy, rfl⟩ := List.mem_map.mp (pm.mem_iff.mp hx)
    rfl
  have pm2 : (M.map num).Perm d := by
    have := pm.map num
    rw [List.map_map] at this
    have e : d.map (num ∘ V.int) = d := by
      refine (List.map_congr_left fun x _ => ?_).trans (List.map_id d)
      rfl
    rw [e] at this
    exact this
  refine ⟨M.map num, eM, pm2, ?_⟩
  rw [List.pairwise_map]
  refine pw.imp_of_mem fun {a b} ha hb hab => ?_
  obtain ⟨x, hx, rfl⟩ := List.mem_map.mp (pm.mem_iff.mp ha)
  obtain ⟨y, hy, rfl⟩ := List.mem_map.mp (pm.mem_iff.mp hb)
  have h1 : (!PySem.W.dataLt (kyD y) (kyD x)) = true := hab
  rw [ky_lt (nn y hy) (nn x hx)] at h1
  show precB x y = false
  simpa using h1
theorem cutV_to (xs : List Int) {n : Int} (h0 : 0 ≤ n) : cutV (xs.map V.int) none (some n) = (xs.take n.toNat).map V.int := by
  unfold cutV
  have e : HT.sIx (xs.map V.int).length (xs.map V.int).length (some n) = min n.toNat (xs.map V.int).length := by
    show (if n < 0 then _ else min n.toNat _) = _
    rw [if_neg (by omega)]
  rw [e, HT.sIx_none, Nat.sub_zero, List.drop_zero, ← List.take_eq_take_min, List.map_take]
theorem cutV_last (xs : List Int) (h : xs ≠ []) : cutV (xs.map V.int) none (some (-1)) = xs.dropLast.map V.int := by
  unfold cutV
  have hl := List.length_pos_iff.mpr h
  have e : HT.sIx (xs.map V.int).length (xs.map V.int).length (some (-1)) = xs.length - 1 := by
    show (if (-1 : Int) < 0 then ((-1) + (((xs.map V.int).length : Nat) : Int)).toNat else min (-1 : Int).toNat (xs.map V.int).length) = _
    rw [if_pos (by decide), List.length_map]
    omega
  rw [e, HT.sIx_none, Nat.sub_zero, List.drop_zero, List.dropLast_eq_take, List.map_take]
theorem depth_ky (v : V) : (kyV v).depth ≤ 20 := by
  simp [kyV, kyD, PyData.depth, PyData.depthAll]
theorem atI_last (d : List Int) (l : Int) : atI ((d ++ [l]).map V.int) (-1) = some (.int l) := by
  unfold atI ixN
  have e : ((d ++ [l]).map V.int).length = d.length + 1 := by simp
  rw [e, if_neg (by decide), if_pos (by omega)]
  have e2 : (-1 + ((d.length + 1 : Nat) : Int)).toNat = d.length := by omega
  rw [e2]
  simp
/-- the strongest of d, as the law finds them -/
theorem strong_kd {d ms : List Int} {n : Nat} (nn : ∀ u ∈ d, 0 ≤ u) (hd : d.Nodup) (pm : ms.Perm d) (pw : ms.Pairwise (fun a b => precB a b = false)) (hn : n ≤ d.length) : Kd (fun u => u ∈ d) n (srt (ms.reverse.take n)) := by
  have mem : ∀ x ∈ ms.reverse, x ∈ d := fun x hx => pm.mem_iff.mp (List.mem_reverse.mp hx)
  have rn : ms.reverse.Nodup := (List.reverse_perm ms).nodup_iff.mpr (pm.nodup_iff.mpr hd)
  have rp : ms.reverse.Pairwise (fun a b => precB a b = true) := by
    have h1 : ms.reverse.Pairwise (fun a b => precB b a = false) := List.pairwise_reverse.mpr pw
    refine (h1.imp_of_mem (S := fun a b => a ≠ b → precB a b = true) fun {a b} ha hb hab ne => ?_).imp₂ (fun a b h1 h2 => h1 h2) rn
    rcases prec_tri (nn a (mem a ha)) (nn b (mem b hb)) ne with h | h
    · exact h
    · rw [hab] at h; cases h
  have rl : ms.reverse.length = d.length := by rw [List.length_reverse, pm.length_eq]
  refine kd_srt (by rw [List.length_take]; omega) (rn.sublist (List.take_sublist _ _)) (fun v hv => mem v (List.mem_of_mem_take hv)) fun u hu nu v hv => ?_
  have ur : u ∈ ms.reverse := List.mem_reverse.mpr (pm.mem_iff.mpr hu)
  rw [← List.take_append_drop n ms.reverse] at ur rp
  exact (List.pairwise_append.mp rp).2.2 v hv u ((List.mem_append.mp ur).resolve_left nu)
theorem rgI_app {lo a hi : Int} (h1 : lo ≤ a + 1) (h2 : a ≤ hi) : rgI lo a ++ rgI (a + 1) hi = rgI lo hi := by
  refine mem_eq (List.pairwise_append.mpr ⟨rgI_pw _ _, rgI_pw _ _, fun x hx y hy => ?_⟩) (rgI_pw _ _) fun x => ?_
  · have := rgI_mem.mp hx
    have := rgI_mem.mp hy
    omega
  · rw [List.mem_append, rgI_mem, rgI_mem, rgI_mem]
    omega
theorem three {α : Type} {a b c x : α} {i : Nat} (h : [a, b, c][i]? = some x) : (i = 0 ∧ x = a) ∨ (i = 1 ∧ x = b) ∨ (i = 2 ∧ x = c) := by
  match i, h with
  | 0, h => simp at h; exact .inl ⟨rfl, h.symm⟩
  | 1, h => simp at h; exact .inr (.inl ⟨rfl, h.symm⟩)
  | 2, h => simp at h; exact .inr (.inr ⟨rfl, h.symm⟩)
  | k + 3, h => simp at h
theorem rgI_self (v : Int) : rgI v v = [v] := by
  unfold rgI
  have e : (v - v + 1).toNat = 1 := by omega
  rw [e]
  simp
theorem made_ex {H H1 : Hp} {x dx : Addr} {o o' : HO} (nx : H x = none) (ndx : H dx = none) (ne : dx ≠ x) (f : Fr [x] (upd (upd H dx o) x o') H1) : Ex H H1 ∧ Ex H (upd (upd H dx o) x o') := by
  have x01 : Ex H (upd (upd H dx o) x o') := (Ex.put ndx).trans (Ex.put (by rw [upd_ne ne.symm]; exact nx))
  exact ⟨fun b o e => f b o (by simp; exact ne_of_none e nx) (x01 b o e), x01⟩
/-! ## what the laws' own search for the strongest finds -/
theorem top_take {d ms : List Int} {n : Nat} (nn : ∀ u ∈ d, 0 ≤ u) (hd : d.Nodup) (pm : ms.Perm d) (pw : ms.Pairwise (fun a b => precB a b = false)) : Top (fun u => u ∈ d) n (ms.reverse.take n) := by
  have mem : ∀ x ∈ ms.reverse, x ∈ d := fun x hx => pm.mem_iff.mp (List.mem_reverse.mp hx)
  have rn : ms.reverse.Nodup := (List.reverse_perm ms).nodup_iff.mpr (pm.nodup_iff.mpr hd)
  have rp : ms.reverse.Pairwise (fun a b => precB a b = true) := by
    have h1 : ms.reverse.Pairwise (fun a b => precB b a = false) := List.pairwise_reverse.mpr pw
    refine (h1.imp_of_mem (S := fun a b => a ≠ b → precB a b = true) fun {a b} ha hb hab ne => ?_).imp₂ (fun a b h1 h2 => h1 h2) rn
    rcases prec_tri (nn a (mem a ha)) (nn b (mem b hb)) ne with h | h
    · exact h
    · rw [hab] at h; cases h
  refine ⟨by rw [List.length_take]; omega, rp.sublist (List.take_sublist _ _), fun v hv => mem v (List.mem_of_mem_take hv), fun u hu nu => ?_⟩
  have ur : u ∈ ms.reverse := List.mem_reverse.mpr (pm.mem_iff.mpr hu)
  rw [← List.take_append_drop n ms.reverse] at ur rp
  have ud := (List.mem_append.mp ur).resolve_left nu
  refine ⟨?_, fun v hv => (List.pairwise_append.mp rp).2.2 v hv u ud⟩
  have : 0 < (ms.reverse.drop n).length := List.length_pos_of_mem ud
  rw [List.length_drop] at this
  rw [List.length_take]
  omega
theorem Top.nd {S : Int → Prop} {n : Nat} {f : List Int} (t : Top S n f) (nn : ∀ u, S u → 0 ≤ u) : f.Nodup :=
  t.pw.imp_of_mem fun {a b} ha hb h e => by
    subst e
    rw [prec_irr (nn a (t.sub a ha))] at h
    cases h
/-- all of S is in d, or preceded by n of d -/
theorem Top.great {S : Int → Prop} {d : List Int} {n : Nat} {f : List Int} (t : Top (fun u => u ∈ d) n f) (nn : ∀ u, S u → 0 ≤ u) (sub : ∀ v ∈ d, S v) (nd : d.Nodup) (cov : ∀ u, S u → u ∈ d ∨ n ≤ (d.filter fun v => precB v u).length) : Top S n f := by
  refine ⟨t.len, t.pw, fun v hv => sub v (t.sub v hv), fun u hu nu => ?_⟩
  by_cases ud : u ∈ d
  · exact t.out u ud nu
  have hn := (cov u hu).resolve_left ud
  have fd : (d.filter fun v => precB v u).Nodup := nd.sublist List.filter_sublist
  have fs : ∀ x ∈ d.filter (fun v => precB v u), x ∈ d ∧ precB x u = true := fun x hx => by
    have := List.mem_filter.mp hx
    exact ⟨this.1, this.2⟩
  have full : f.length = n := by
    by_cases h : ∃ x ∈ d, x ∉ f
    · obtain ⟨x, h1, h2⟩ := h
      exact (t.out x h1 h2).1
    · have all : ∀ x ∈ d, x ∈ f := fun x hx => Classical.byContradiction fun z => h ⟨x, hx, z⟩
      have := nodup_len fd fun x hx => all x (fs x hx).1
      have := t.len
      omega
  refine ⟨full, fun v hv => Classical.byContradiction fun hnv => ?_⟩
  have v0 := nn v (sub v (t.sub v hv))
  have u0 := nn u hu
  have ne : v ≠ u := fun e => ud (e ▸ t.sub v hv)
  have uv : precB u v = true := (prec_tri v0 u0 ne).resolve_left hnv
  have inf : ∀ x ∈ v :: d.filter (fun v => precB v u), x ∈ f := fun x hx => by
    rcases List.mem_cons.mp hx with rfl | hx
    · exact hv
    · obtain ⟨xd, xu⟩ := fs x hx
      refine Classical.byContradiction fun nx => ?_
      have x0 := nn x (sub x xd)
      exact prec_asym x0 v0 (precB_tr x0 u0 v0 xu uv) ((t.out x xd nx).2 v hv)
  have := nodup_len (List.nodup_cons.mpr ⟨fun z => hnv (fs v z).2, fd⟩) inf
  rw [List.length_cons] at this
  omega
/-- odd numbers up to top, at least n of them -/
def odL (top : Int) (n : Nat) : List Int := (rgI (top - 2 * n) top).filter fun x => decide (x % 2 = 1)
theorem odL_mem {top v : Int} {n : Nat} : v ∈ odL top n ↔ top - 2 * n ≤ v ∧ v ≤ top ∧ v % 2 = 1 := by
  unfold odL
  rw [List.mem_filter, rgI_mem, decide_eq_true_eq, and_assoc]
theorem odL_len (top : Int) (n : Nat) : (odL top n).length ≤ 2 * n + 1 := by
  unfold odL
  refine Nat.le_trans (List.length_filter_le _ _) ?_
  rw [rgI_len]
  omega
def odS (lo hi p : Int) (n : Nat) : List Int := ((odL (hi / p) n).filter fun m => decide (mx lo 1 ≤ m * p)).map fun m => m * p
theorem odS_mem {lo hi p v : Int} {n : Nat} : v ∈ odS lo hi p n ↔ ∃ m, v = m * p ∧ hi / p - 2 * n ≤ m ∧ m ≤ hi / p ∧ m % 2 = 1 ∧ lo ≤ m * p ∧ 1 ≤ m * p := by
  unfold odS
  rw [List.mem_map]
  constructor
  · rintro ⟨m, h, rfl⟩
    obtain ⟨h1, h2⟩ := List.mem_filter.mp h
    obtain ⟨a, b, c⟩ := odL_mem.mp h1
    have h2 := of_decide_eq_true h2
    have := mx_le lo 1
    exact ⟨m, rfl, a, b, c, by omega, by omega⟩
  · rintro ⟨m, rfl, a, b, c, d, e⟩
    exact ⟨m, List.mem_filter.mpr ⟨odL_mem.mpr ⟨a, b, c⟩, decide_eq_true (by unfold mx; split <;> omega)⟩, rfl⟩
theorem odS_nd {lo hi p : Int} {n : Nat} (hp : 0 < p) : (odS lo hi p n).Nodup := by
  unfold odS odL
  have h : ((List.filter (fun m => decide (mx lo 1 ≤ m * p)) ((rgI (hi / p - 2 * n) (hi / p)).filter fun x => decide (x % 2 = 1)))).Pairwise (· < ·) := ((rgI_pw _ _).sublist List.filter_sublist).sublist List.filter_sublist
  exact List.pairwise_map.mpr (h.imp fun {a b} hab => by
    have := Int.mul_lt_mul_of_pos_right hab hp
    omega)
theorem odS_len (lo hi p : Int) (n : Nat) : (odS lo hi p n).length ≤ 2 * n + 1 := by
  unfold odS
  rw [List.length_map]
  exact Nat.le_trans (List.length_filter_le _ _) (odL_len _ _)
structure SgInv (lo hi : Int) (n k : Nat) (f : List Int) : Prop where
  nd : f.Nodup
  sub : ∀ v ∈ f, (lo ≤ v ∧ v ≤ hi ∧ 0 ≤ v) ∧ (v = 0 ∨ 2 ^ k ≤ lowb v)
  cov : ∀ u, lo ≤ u → u ≤ hi → 0 ≤ u → (u = 0 ∨ 2 ^ k ≤ lowb u) → u ∈ f ∨ n ≤ (f.filter fun v => precB v u).length
theorem sg_step {lo hi : Int} {n k : Nat} {f : List Int} (I : SgInv lo hi n (k + 1) f) : SgInv lo hi n k (f ++ odS lo hi (2 ^ k) n) := by
  have p0 : (0 : Int) < 2 ^ k := Int.pow_pos (by decide)
  have p1 : (2 : Int) ^ (k + 1) = 2 * 2 ^ k := by rw [Int.pow_succ, Int.mul_comm]
  have lw : ∀ {m : Int}, m % 2 = 1 → 1 ≤ m * 2 ^ k → 0 < m ∧ lowb (m * 2 ^ k) = 2 ^ k := fun {m} h1 h2 => by
    have m0 : 0 < m := by
      refine Classical.byContradiction fun z => ?_
      have := Int.mul_le_mul_of_nonneg_right (show m ≤ 0 by omega) (Int.le_of_lt p0)
      omega
    exact ⟨m0, lowb_mul h1 m0⟩
  have om : ∀ v ∈ odS lo hi (2 ^ k) n, lo ≤ v ∧ v ≤ hi ∧ 1 ≤ v ∧ lowb v = 2 ^ k := fun v hv => by
    obtain ⟨m, rfl, a, b, c, d, e⟩ := odS_mem.mp hv
    exact ⟨d, (Int.le_ediv_iff_mul_le p0).mp b, e, (lw c e).2⟩
  refine ⟨List.nodup_append.mpr ⟨I.nd, odS_nd p0, fun a ha b hb e => ?_⟩, fun v hv => ?_, fun u h1 h2 h3 h4 => ?_⟩
  · subst e
    obtain ⟨_, _, g1, g2⟩ := om a hb
    rcases (I.sub a ha).2 with z | z
    · omega
    · rw [p1] at z; omega
  · rcases List.mem_append.mp hv with h | h
    · obtain ⟨a, b⟩ := I.sub v h
      refine ⟨a, b.imp id fun z => ?_⟩
      rw [p1] at z; omega
    · obtain ⟨a, b, c, d⟩ := om v h
      exact ⟨⟨a, b, by omega⟩, .inr (by omega)⟩
  · have old : (u = 0 ∨ 2 ^ (k + 1) ≤ lowb u) → u ∈ f ++ odS lo hi (2 ^ k) n ∨ n ≤ ((f ++ odS lo hi (2 ^ k) n).filter fun v => precB v u).length := fun h => by
      rcases I.cov u h1 h2 h3 h with z | z
      · exact .inl (List.mem_append_left _ z)
      · right
        rw [List.filter_append, List.length_append]
        omega
    rcases h4 with h4 | h4
    · exact old (.inl h4)
    by_cases u0 : u = 0
    · exact old (.inl u0)
    rcases lowb_cases (by omega) h4 with h5 | h5
    · obtain ⟨m, rfl, m1, m0⟩ := of_lowb (by omega) h5
      have mt : m ≤ hi / 2 ^ k := (Int.le_ediv_iff_mul_le p0).mpr h2
      by_cases hm : hi / 2 ^ k - 2 * n ≤ m
      · exact .inl (List.mem_append_right _ (odS_mem.mpr ⟨m, rfl, hm, mt, m1, h1, by omega⟩))
      · right
        rw [List.filter_append, List.length_append]
        obtain ⟨t, ht1, ht2, ht3⟩ : ∃ t : Int, t % 2 = 1 ∧ t ≤ hi / 2 ^ k ∧ hi / 2 ^ k - 1 ≤ t := by
          by_cases e : (hi / 2 ^ k) % 2 = 1
          · exact ⟨hi / 2 ^ k, e, by omega, by omega⟩
          · exact ⟨hi / 2 ^ k - 1, by omega, by omega, by omega⟩
        have nl := nodup_len (l := (List.range n).map fun (i : Nat) => (t - 2 * (i : Int)) * 2 ^ k) (m := (odS lo hi (2 ^ k) n).filter fun v => precB v (m * 2 ^ k)) ?_ ?_
        · rw [List.length_map, List.length_range] at nl
          omega
        · refine List.pairwise_map.mpr (List.pairwise_lt_range.imp fun {a b} hab => ?_)
          have := Int.mul_lt_mul_of_pos_right (show t - 2 * (b : Int) < t - 2 * (a : Int) by omega) p0
          omega
        · intro x hx
          obtain ⟨i, hi1, rfl⟩ := List.mem_map.mp hx
          have hi1 := List.mem_range.mp hi1
          have lt := Int.mul_lt_mul_of_pos_right (show m < t - 2 * (i : Int) by omega) p0
          have x1 : (t - 2 * (i : Int)) * 2 ^ k ∈ odS lo hi (2 ^ k) n := odS_mem.mpr ⟨_, rfl, by omega, by omega, by omega, by omega, by omega⟩
          refine List.mem_filter.mpr ⟨x1, ?_⟩
          have l1 := (om _ x1).2.2.2
          exact (prec_iff (by omega) h3).mpr (.inr ⟨by omega, by omega, .inr ⟨by rw [l1, h5], lt⟩⟩)
    · exact old (.inr h5)
theorem sg_init {lo hi : Int} {n k : Nat} (h0 : 0 ≤ lo) (hk : hi < 2 ^ k) : SgInv lo hi n k (if lo = 0 ∧ lo ≤ hi then [0] else []) := by
  refine ⟨by split <;> simp, fun v hv => ?_, fun u h1 h2 h3 h4 => .inl ?_⟩
  · split at hv
    · rename_i h
      obtain rfl : v = 0 := by simpa using hv
      exact ⟨⟨by omega, by omega, by omega⟩, .inl rfl⟩
    · cases hv
  · have u0 : u = 0 := by
      refine Classical.byContradiction fun z => ?_
      have h5 := h4.resolve_left z
      have := (lowb_le (n := u) (by omega)).2
      omega
    subst u0
    rw [if_pos (by omega)]
    simp
theorem sg_all {lo hi : Int} {n k : Nat} {f : List Int} (I : SgInv lo hi n k f) (h : k = 0 ∨ n ≤ f.length) : ∀ u, lo ≤ u → u ≤ hi → 0 ≤ u → u ∈ f ∨ n ≤ (f.filter fun v => precB v u).length := fun u h1 h2 h3 => by
  by_cases hu : u = 0 ∨ 2 ^ k ≤ lowb u
  · exact I.cov u h1 h2 h3 hu
  · have u0 : u ≠ 0 := fun z => hu (.inl z)
    have l1 : ¬ 2 ^ k ≤ lowb u := fun z => hu (.inr z)
    rcases h with rfl | h
    · have := lowb_pos (v := u) (by omega)
      exact absurd (by omega) l1
    · right
      rw [List.filter_eq_self.mpr fun v hv => ?_]
      · exact h
      · obtain ⟨⟨a, b, c⟩, d⟩ := I.sub v hv
        refine (prec_iff c h3).mpr ?_
        by_cases v0 : v = 0
        · exact .inl ⟨v0, by omega⟩
        · exact .inr ⟨by omega, by omega, .inl (by have := d.resolve_left v0; omega)⟩
/-- what waits, by the law's own search -/
theorem top_aft {w R : List Int} {lo hi : Int} {cap : Nat} (k : WOk w lo cap) (sw : w.Pairwise (· < ·)) (hl : lo ≤ hi) (h : ¬ (w.length : Int) + hi - lo + 1 ≤ cap) (t : Top (Cand w lo (hi - 1)) (cap - 1) R) : srt R ++ [hi] = aftR w lo hi cap := by
  obtain ⟨ks, e, kd⟩ := aftR_great k sw hl h
  have nn : ∀ u, Cand w lo (hi - 1) u → 0 ≤ u := fun u hu => hu.nn k
  have len : R.length = cap - 1 := by
    by_cases z : ∃ x, Cand w lo (hi - 1) x ∧ x ∉ R
    · obtain ⟨x, h1, h2⟩ := z
      exact (t.out x h1 h2).1
    · have all : ∀ x, Cand w lo (hi - 1) x → x ∈ R := fun x hx => Classical.byContradiction fun y => z ⟨x, hx, y⟩
      have nd : (w ++ rgI lo (hi - 1)).Nodup := List.nodup_append.mpr ⟨lt_nodup sw, lt_nodup (rgI_pw _ _), fun a ha b hb e => by
        have := k.b a ha
        have := rgI_mem.mp hb
        omega⟩
      have := nodup_len nd fun x hx => all x (by
        rcases List.mem_append.mp hx with z | z
        · exact .inl z
        · exact .inr (rgI_mem.mp z))
      rw [List.length_append, rgI_len] at this
      have := t.len
      have := k.c2
      omega
  rw [e]
  congr 1
  refine Kd.uniq nn (kd_srt len (t.nd nn) t.sub fun u hu nu v hv => (t.out u hu nu).2 v hv) kd
theorem srt_self {xs : List Int} (h : xs.Pairwise (· < ·)) : srt xs = xs := (srt_eq (.refl _) (h.imp fun {a b} hab => Int.le_of_lt hab)).symm
theorem small_aft {w : List Int} {lo hi : Int} {cap : Nat} (k : WOk w lo cap) (sw : w.Pairwise (· < ·)) (h : (w.length : Int) + hi - lo + 1 ≤ cap) : srt (w ++ rgI lo hi) = aftR w lo hi cap := by
  rw [aftR_small h, srt_self]
  exact List.pairwise_append.mpr ⟨sw, rgI_pw _ _, fun a ha b hb => by
    have := k.b a ha
    have := rgI_mem.mp hb
    omega⟩
/-! ## queues of a law: apart from each other, their states -/
structure Q1 (C : Addr) (H0 H : Hp) (x kl cl : Addr) (q : Qst) : Prop where
  at_ : QAt C H x kl cl q
  xx : Ex H0 H
  n1 : H0 x = none
  c1 : H0 cl = none
  e1 : kl ≠ cl
structure Ap (x kl cl x' kl' cl' : Addr) : Prop where
  ne : x ≠ x'
  e3 : kl ≠ cl'
  e4 : kl' ≠ cl
  e5 : cl ≠ cl'
theorem Ap.swap {x kl cl x' kl' cl' : Addr} (a : Ap x kl cl x' kl' cl') : Ap x' kl' cl' x kl cl := ⟨a.ne.symm, a.e4, a.e3, a.e5.symm⟩
theorem QAt.cl_some {C : Addr} {H : Hp} {a kl cl : Addr} {q : Qst} (A : QAt C H a kl cl q) : ∃ o, H cl = some o := by
  obtain ⟨_, _, cs, l, _⟩ := A
  exact ⟨_, l⟩
theorem Q1.ex0 {C : Addr} {H0 H H' : Hp} {x kl cl : Addr} {q : Qst} (a : Q1 C H0 H x kl cl q) (f : Fr [x, cl] H H') : Ex H0 H' := fun b o e => f b o (by
  simp
  exact ⟨ne_of_none e a.n1, ne_of_none e a.c1⟩) (a.xx b o e)
theorem Q1.op {C : Addr} {H0 H H' : Hp} {x kl kl2 cl : Addr} {q q2 : Qst} (a : Q1 C H0 H x kl cl q) (f : Fr [x, cl] H H') (hk : H kl2 = none) (A : QAt C H' x kl2 cl q2) : Q1 C H0 H' x kl2 cl q2 := by
  obtain ⟨o, s⟩ := a.at_.cl_some
  exact ⟨A, a.ex0 f, a.n1, a.c1, (ne_of_none s hk).symm⟩
theorem Q1.ex {C : Addr} {H0 H H' : Hp} {x kl cl : Addr} {q : Qst} (a : Q1 C H0 H x kl cl q) (e : Ex H H') : Q1 C H0 H' x kl cl q := ⟨a.at_.ex e, a.xx.trans e, a.n1, a.c1, a.e1⟩
theorem Q1.other {C : Addr} {H0 H H' : Hp} {x kl cl x' kl' cl' : Addr} {q r : Qst} (a : Q1 C H0 H x kl cl q) (b : Q1 C H0 H x' kl' cl' r) (p : Ap x kl cl x' kl' cl') (f : Fr [x, cl] H H') : Q1 C H0 H' x' kl' cl' r := by
  refine ⟨?_, a.ex0 f, b.n1, b.c1, b.e1⟩
  obtain ⟨⟨dx, i1⟩, k1, cs, l1, _⟩ := a.at_
  obtain ⟨⟨dy, i2⟩, k2, ds, l2, d2⟩ := id b.at_
  refine b.at_.fr f ?_ ?_ ?_ fun z hz xs e => ?_
  · simp
    exact ⟨p.ne.symm, ne_kind i2 l1 (fun e => by cases e)⟩
  · simp
    exact ⟨ne_kind k2 i1 (fun e => by cases e), p.e4⟩
  · simp
    exact ⟨ne_kind l2 i1 (fun e => by cases e), p.e5.symm⟩
  · simp at hz
    rcases hz with rfl | rfl
    · rw [i1] at e; cases e
    · rw [l1] at e; cases e
theorem Ap.op {C : Addr} {H H0 : Hp} {x kl kl2 cl x' kl' cl' : Addr} {r : Qst} (p : Ap x kl cl x' kl' cl') (b : Q1 C H0 H x' kl' cl' r) (hk : H kl2 = none) : Ap x kl2 cl x' kl' cl' := by
  obtain ⟨o, s⟩ := b.at_.cl_some
  exact ⟨p.ne, (ne_of_none s hk).symm, p.e4, p.e5⟩
/-- a queue of the law: its state, what must wait -/
structure Lq (cap : Nat) (m bd : Int) (so : List Int) (n : Nat) (q : Qst) : Prop where
  ok : QOk q
  size : q.size = cap
  mark : q.mark = m
  bound : q.bound ≤ bd
  due : Due cap so q.kept
  calls : q.calls.length ≤ n
/-- the versions that may wait -/
structure So (m bd : Int) (so : List Int) : Prop where
  pw : so.Pairwise (· < ·)
  b : ∀ u ∈ so, m < u ∧ u ≤ bd
theorem Lq.arrive {cap : Nat} {m bd lo hi : Int} {so : List Int} {n : Nat} {q : Qst} (l : Lq cap m bd so n q) (s : So m bd so) (m0 : -1 ≤ m) (hm : m ≤ bd) (hlo : bd < lo) (hl : lo ≤ hi) (hb : Big hi) (hn : n < 100000) : Lq cap m hi (so ++ rgI lo hi) (n + 1) (q.arrive lo hi) := by
  have b1 := l.bound
  have e1 := l.mark
  refine ⟨l.ok.arrive (by omega) hl hb (by have := l.calls; omega), l.size, l.mark, Int.le_refl _, ?_, by show (q.calls ++ [_]).length ≤ n + 1; have := l.calls; simp; omega⟩
  have em : mx lo (q.mark + 1) = lo := by
    unfold mx
    rw [if_neg (by omega)]
  show Due cap _ (aftA q.kept (mx lo (q.mark + 1)) hi q.size)
  rw [em]
  unfold aftA
  rw [if_neg (by omega), l.size]
  obtain ⟨k, hk⟩ : ∃ k : Nat, hi = lo + k := ⟨(hi - lo).toNat, by omega⟩
  subst hk
  have c2 := l.ok.c2
  have c9 := l.ok.c9
  rw [l.size] at c2 c9
  exact due_range c2 c9 (by omega) s.pw (fun u hu => by have := s.b u hu; omega) l.due k
theorem So.arrive {m bd lo hi : Int} {so : List Int} (s : So m bd so) (hm : m ≤ bd) (hlo : bd < lo) (hl : lo ≤ hi + 1) : So m hi (so ++ rgI lo hi) := by
  refine ⟨List.pairwise_append.mpr ⟨s.pw, rgI_pw _ _, fun a ha b hb => ?_⟩, fun u hu => ?_⟩
  · have := s.b a ha
    have := rgI_mem.mp hb
    omega
  · rcases List.mem_append.mp hu with z | z
    · have := s.b u z; omega
    · have := rgI_mem.mp z; omega
theorem Fr.back {C : Addr} {H H1 : Hp} {x kl cl b : Addr} {q : Qst} (f : Fr [x, cl] H H1) (A : QAt C H1 x kl cl q) (n : H1 b = none) : H b = none := by
  obtain ⟨dx, i⟩ := A.ins
  obtain ⟨o1, i1⟩ := A.cl_some
  cases e : H b with
  | none => rfl
  | some o =>
    have := f b o (by
      simp
      exact ⟨(ne_of_none i n).symm, (ne_of_none i1 n).symm⟩) e
    rw [n] at this
    cases this
theorem at_lst {C : Addr} {H0 H H' : Hp} {x kl cl b : Addr} {q : Qst} {ys : List V} (a : Q1 C H0 H x kl cl q) (f : Fr [x, cl] H H') (h : H b = some (.lst ys)) (n : b ≠ cl) : H' b = some (.lst ys) := by
  obtain ⟨dx, i⟩ := a.at_.ins
  exact f b _ (by
    simp
    exact ⟨ne_kind h i (fun e => by cases e), n⟩) h
structure Same (a b : Qst) : Prop where
  size : a.size = b.size
  first : a.first = b.first
  mark : a.mark = b.mark
  latest : a.latest = b.latest
  kept : a.kept = b.kept
  most : a.most = b.most
theorem Same.eqv {a b : Qst} (s : Same a b) : a.eqv b = true := by
  unfold Qst.eqv
  exact decide_eq_true ⟨s.size, s.first, s.mark, s.latest, s.kept⟩
theorem Same.lag {a b : Qst} (s : Same a b) : a.lag = b.lag := by
  unfold Qst.lag
  rw [s.latest, s.mark]
theorem mx_mx {a m : Int} {x : Int} (h : 0 ≤ x - m) : mx (mx a (mx 0 (x - m))) (mx 0 (x + 1 - m)) = mx a (mx 0 (x + 1 - m)) := by
  simp only [mx]
  split <;> (try split) <;> (try split) <;> (try split) <;> omega
theorem Lq.weak {cap : Nat} {m bd bd2 : Int} {so : List Int} {n n2 : Nat} {q : Qst} (l : Lq cap m bd so n q) (h : bd ≤ bd2) (hn : n ≤ n2) : Lq cap m bd2 so n2 q := ⟨l.ok, l.size, l.mark, Int.le_trans l.bound h, l.due, Nat.le_trans l.calls hn⟩
theorem optD_fits {o : Option Int} (h : ∀ i, o = some i → -1 ≤ i ∧ Big i) : fits (optD o) := by
  cases o with
  | none => simp [optD, fits]
  | some i =>
    have := h i rfl
    unfold Big at this
    simp only [optD, fits]
    omega
theorem QOk.latest {q : Qst} (ok : QOk q) : ∀ i, q.latest = some i → -1 ≤ i ∧ Big i := fun i e => by
  have b0 := ok.b0
  have b1 := ok.b1
  have f0 := ok.f0
  have eb : q.bound = i := by unfold Qst.bound; rw [e]
  rw [eb] at b0 b1
  exact ⟨by omega, b1⟩
theorem QOk.kfits {q : Qst} (ok : QOk q) : fitsAll (q.kept.map PyData.int) := fits_ints _ fun x hx => by
  have := ok.kb x hx
  have b1 := ok.b1
  unfold Big at b1
  omega
theorem QOk.lag {q : Qst} (ok : QOk q) : 0 ≤ q.lag ∧ q.lag < 2000000000000000000000000000000000000000000000000000000000000000 := by
  have m0 := ok.m0
  have b1 := ok.b1
  unfold Big at b1
  unfold Qst.lag
  cases h : q.latest with
  | none => exact ⟨Int.le_refl _, show (0 : Int) < _ by decide⟩
  | some l =>
    have := (ok.latest l h).2
    unfold Big at this
    show 0 ≤ mx 0 (l - q.mark) ∧ mx 0 (l - q.mark) < _
    unfold mx
    split <;> omega
/-! ## a queue as a law follows it, whatever its mark -/
structure Lx (C : Addr) (H0 H : Hp) (x kl cl sa : Addr) (q : Qst) (cap : Nat) (bg : Int) (n : Nat) : Prop where
  a : Q1 C H0 H x kl cl q
  sa_ : H sa = some (.lst (q.kept.map V.int))
  ne : sa ≠ cl
  ok : QOk q
  size : q.size = cap
  first : q.first = bg
  pw : q.kept.Pairwise (· < ·)
  km : ∀ v ∈ q.kept, q.mark < v
  m0 : 0 ≤ q.most
  m1 : q.most ≤ q.bound + 1
  calls : q.calls.length ≤ n
section
variable {C : Addr} {H0 H H' : Hp} {x kl kl2 cl sa sb : Addr} {q : Qst} {cap n n2 : Nat} {bg : Int}
theorem Lx.ex (l : Lx C H0 H x kl cl sa q cap bg n) (e : Ex H H') : Lx C H0 H' x kl cl sa q cap bg n := ⟨l.a.ex e, e _ _ l.sa_, l.ne, l.ok, l.size, l.first, l.pw, l.km, l.m0, l.m1, l.calls⟩
theorem Lx.weak (l : Lx C H0 H x kl cl sa q cap bg n) (hn : n ≤ n2) : Lx C H0 H x kl cl sa q cap bg n2 := ⟨l.a, l.sa_, l.ne, l.ok, l.size, l.first, l.pw, l.km, l.m0, l.m1, Nat.le_trans l.calls hn⟩
theorem Lx.most (l : Lx C H0 H x kl cl sa q cap bg n) : 0 ≤ q.most ∧ q.most < 2000000000000000000000000000000000000000000000000000000000000000 := by
  have b1 := l.ok.b1
  have := l.m0
  have := l.m1
  unfold Big at b1
  omega
theorem Lx.wok (l : Lx C H0 H x kl cl sa q cap bg n) {lo hi : Int} (h : q.bound < lo) : WOk q.kept (mx lo (q.mark + 1)) cap ∧ (q.arrive lo hi).kept = aftA q.kept (mx lo (q.mark + 1)) hi cap := by
  have w := l.ok.wok h
  have e := l.size
  rw [e] at w
  exact ⟨w, by show aftA q.kept (mx lo (q.mark + 1)) hi q.size = _; rw [e]⟩
theorem aftA_pw {w : List Int} {lo hi : Int} {cap : Nat} (k : WOk w lo cap) (sw : w.Pairwise (· < ·)) : (aftA w lo hi cap).Pairwise (· < ·) := by
  unfold aftA
  split
  · exact sw
  · exact aftR_pw k sw (by omega)
theorem Lx.arrive (l : Lx C H0 H x kl cl sa q cap bg n) {lo hi : Int} (h : q.bound < lo) (hl : lo ≤ hi) (hb : Big hi) (hn : n < 90000) (a : Q1 C H0 H' x kl2 cl (q.arrive lo hi)) (hs : H' sb = some (.lst ((q.arrive lo hi).kept.map V.int))) (ne : sb ≠ cl) : Lx C H0 H' x kl2 cl sb (q.arrive lo hi) cap bg (n + 1) := by
  obtain ⟨w, e1⟩ := l.wok (hi := hi) h
  have b0 := l.ok.b0
  have f0 := l.ok.f0
  have mk0 := l.ok.m0
  have m0 := l.m0
  have m1 := l.m1
  refine ⟨a, hs, ne, l.ok.arrive h hl hb (by have := l.calls; omega), l.size, l.first, ?_, fun v hv => ?_, ?_, ?_, by show (q.calls ++ [_]).length ≤ n + 1; have := l.calls; simp; omega⟩
  · rw [e1]
    exact aftA_pw w l.pw
  · rw [e1] at hv
    show q.mark < v
    unfold aftA at hv
    split at hv
    · exact l.km v hv
    · rcases aftR_cand w l.pw (by omega) v hv with z | z
      · exact l.km v z
      · have := (mx_le lo (q.mark + 1)).2
        omega
  · show 0 ≤ mx q.most _
    have := (mx_le q.most (mx 0 (hi - q.mark))).1
    omega
  · show mx q.most (mx 0 (hi - q.mark)) ≤ hi + 1
    unfold mx
    split <;> (try split) <;> omega
theorem Lx.advance (l : Lx C H0 H x kl cl sa q cap bg n) {mk : Int} (h0 : 0 ≤ mk) (hb : Big mk) (hn : n < 90000) (a : Q1 C H0 H' x kl2 cl (q.advance mk)) (hs : H' sb = some (.lst ((q.advance mk).kept.map V.int))) (ne : sb ≠ cl) : Lx C H0 H' x kl2 cl sb (q.advance mk) cap bg (n + 1) :=
  ⟨a, hs, ne, l.ok.advance h0 hb (by have := l.calls; omega), l.size, l.first, l.pw.sublist List.filter_sublist, fun v hv => of_decide_eq_true (List.mem_filter.mp hv).2, l.m0, l.m1, by show (q.calls ++ [_]).length ≤ n + 1; have := l.calls; simp; omega⟩
end
/-! ## the drops, as a law finds them -/
def lawDue (cap : Nat) (v : Int) : List Arr → Option Drop
  | [] => none
  | r :: rs => if (holdsA r v && !decide (v ∈ aftA r.w r.low r.high cap)) = true then some (dropA r cap v) else lawDue cap v rs
def arrs (size : Nat) : Int → List Int → List Call → List Arr
  | _, _, [] => []
  | _, w, (x, none) :: r => arrs size x (w.filter fun o => decide (o > x)) r
  | m, w, (l, some h) :: r => (if mx l (m + 1) ≤ h then [⟨m, w, mx l (m + 1), h⟩] else []) ++ arrs size m (aftA w (mx l (m + 1)) h size) r
def endS (size : Nat) : Int → List Int → List Call → Int × List Int
  | m, w, [] => (m, w)
  | _, w, (x, none) :: r => endS size x (w.filter fun o => decide (o > x)) r
  | m, w, (l, some h) :: r => endS size m (aftA w (mx l (m + 1)) h size) r
theorem arrs_app (size : Nat) : ∀ (cs ds : List Call) (m : Int) (w : List Int), arrs size m w (cs ++ ds) = arrs size m w cs ++ arrs size (endS size m w cs).1 (endS size m w cs).2 ds
  | [], ds, m, w => rfl
  | (x, none) :: r, ds, m, w => arrs_app size r ds _ _
  | (l, some h) :: r, ds, m, w => by
    show _ ++ arrs size m _ (r ++ ds) = (_ ++ arrs size m _ r) ++ _
    rw [arrs_app size r ds, List.append_assoc]
    rfl
theorem endS_app (size : Nat) : ∀ (cs ds : List Call) (m : Int) (w : List Int), endS size m w (cs ++ ds) = endS size (endS size m w cs).1 (endS size m w cs).2 ds
  | [], ds, m, w => rfl
  | (x, none) :: r, ds, m, w => endS_app size r ds _ _
  | (l, some h) :: r, ds, m, w => endS_app size r ds _ _
theorem dropRun_due (size : Nat) (v : Int) : ∀ (cs : List Call) (m : Int) (w : List Int), dropRun size v m w cs = lawDue size v (arrs size m w cs)
  | [], m, w => rfl
  | (x, none) :: r, m, w => dropRun_due size v r _ _
  | (l, some h) :: r, m, w => by
    show (if (holdsA ⟨m, w, mx l (m + 1), h⟩ v && !decide (v ∈ aftA w (mx l (m + 1)) h size)) = true then some (dropA ⟨m, w, mx l (m + 1), h⟩ size v) else dropRun size v m (aftA w (mx l (m + 1)) h size) r) = lawDue size v ((if mx l (m + 1) ≤ h then [⟨m, w, mx l (m + 1), h⟩] else []) ++ arrs size m (aftA w (mx l (m + 1)) h size) r)
    rw [dropRun_due size v r]
    by_cases hz : mx l (m + 1) ≤ h
    · rw [if_pos hz]
      rfl
    · rw [if_neg hz, if_neg]
      · rfl
      · have e : aftA w (mx l (m + 1)) h size = w := by
          unfold aftA
          rw [if_pos (by omega)]
        rw [e]
        unfold holdsA
        intro z
        simp only [Bool.and_eq_true, Bool.or_eq_true, decide_eq_true_eq, Bool.not_eq_true', decide_eq_false_iff_not] at z
        rcases z with ⟨a | a, b⟩
        · exact b a
        · have a1 := a.1
          have a2 := a.2
          omega
/-- the state is what its calls make of it -/
structure Sim (q : Qst) : Prop where
  e : endS q.size (q.first - 1) [] q.calls = (q.mark, q.kept)
def Qst.arrs (q : Qst) : List Arr := L2.G.arrs q.size (q.first - 1) [] q.calls
theorem Sim.new (cap : Nat) (s : Int) : Sim (Qst.new cap s) := ⟨rfl⟩
theorem Sim.arrive {q : Qst} (s : Sim q) (lo hi : Int) : Sim (q.arrive lo hi) := ⟨by
  show endS q.size (q.first - 1) [] (q.calls ++ [(lo, some hi)]) = _
  rw [endS_app, s.e]
  rfl⟩
theorem Sim.advance {q : Qst} (s : Sim q) (v : Int) : Sim (q.advance v) := ⟨by
  show endS q.size (q.first - 1) [] (q.calls ++ [(v, none)]) = _
  rw [endS_app, s.e]
  rfl⟩
theorem Sim.arrs_arrive {q : Qst} (s : Sim q) (lo hi : Int) : (q.arrive lo hi).arrs = q.arrs ++ (if mx lo (q.mark + 1) ≤ hi then [⟨q.mark, q.kept, mx lo (q.mark + 1), hi⟩] else []) := by
  show L2.G.arrs q.size (q.first - 1) [] (q.calls ++ [(lo, some hi)]) = _
  rw [arrs_app, s.e]
  show q.arrs ++ (_ ++ []) = _
  rw [List.append_nil]
theorem Sim.arrs_advance {q : Qst} (s : Sim q) (v : Int) : (q.advance v).arrs = q.arrs := by
  show L2.G.arrs q.size (q.first - 1) [] (q.calls ++ [(v, none)]) = _
  rw [arrs_app, s.e]
  exact List.append_nil _
theorem Qst.dropOf_due (q : Qst) (v : Int) : q.dropOf v = lawDue q.size v q.arrs := dropRun_due _ _ _ _ _
/-! ## is, is not of bools -/
section
variable {X : Cx}
def oIsB : RO := fun x y H Q => match x, y with
  | .bl a, .bl b => Q (.bl (decide (a = b))) H
  | _, _ => False
def oIsNB : RO := fun x y H Q => match x, y with
  | .bl a, .bl b => Q (.bl (!decide (a = b))) H
  | _, _ => False
theorem o_isB : SO X (compareOp .Is) oIsB := .of op_isBl fun x y H Q q H1 e => by
  cases x <;> first | exact q.elim | skip
  cases y <;> first | exact q.elim | skip
  exact ⟨_, _, rfl, rfl, H, e, q⟩
theorem o_isNB : SO X (compareOp .IsNot) oIsNB := .of op_notBl fun x y H Q q H1 e => by
  cases x <;> first | exact q.elim | skip
  cases y <;> first | exact q.elim | skip
  exact ⟨_, _, rfl, rfl, H, e, q⟩
end
theorem Q1.oth {C : Addr} {H0 H : Hp} {x kl cl ca : Addr} {q : Qst} {xs ys : List V} (a : Q1 C H0 H x kl cl q) (n0 : H0 ca = none) (hc : H ca = some (.lst xs)) (n1 : ca ≠ kl) (n2 : ca ≠ cl) : Q1 C H0 (upd H ca (.lst ys)) x kl cl q := by
  obtain ⟨dx, i⟩ := a.at_.ins
  have f : Fr [ca] H (upd H ca (.lst ys)) := (Fr.of_ex (Ex.refl _)).upd (.inl (by simp))
  refine ⟨a.at_.fr f (by simpa using ne_kind i hc (fun e => by cases e)) (by simpa using n1.symm) (by simpa using n2.symm) (fun z hz xs' g => ?_), fun b o e => ?_, a.n1, a.c1, a.e1⟩
  · simp at hz
    subst hz
    rw [hc] at g
    cases g
  · rw [upd_ne (ne_of_none e n0)]
    exact a.xx b o e
/-! ## f-strings of data -/
/-- str(x) of data -/
def toldS : PyData → Str
  | .str x => x
  | d => d.shown
section
variable {X : Cx} {j : Nat} {e : Expr} {t : RX} {pos : Pos} {W : WX} {k : Nat}
theorem fmt_data {pins : List (Addr × Obj)} {s : Shared} {σ : St} {H : Hp} {v : V} {u : Value} {d : PyData} {Q : VK} (c : Cn X W k) (I : Inv X pins σ H s) (hd : Dp X.K H v d) (ru : RelV v u) (ok : RpOk d) (hl : (toldS d).length ≤ sizeLine) (q : Q (.str (toldS d)) H) :
    wpAny (model X.prog X.w) X.A (formatField u Str.empty) (EP X pins σ Q) X.xe s := by
  obtain ⟨as, rd⟩ := Dp.reads I d v u hd ru
  have z := fits.short d ok.f
  have len : d.shown.length ≤ sizeLine := Nat.le_trans ok.len (by decide)
  have room : X.A.units + (d.depth + 2) < cLine := by
    have := c.room.units
    have := ok.p
    omega
  have fin : ∀ y : Str, toldS d = y → ∀ h' t tk, (∀ b o, s.heap.get? b = some o → h'.get? b = some o) → EP X pins σ Q (.str y t) { s with heap := h', toks := tk } := fun y ey h' t tk hk =>
    ⟨.str y, H, I.kept (fun b o e => hk b o e), ⟨t, rfl⟩, by rw [← ey]; exact q⟩
  cases rd with
  | none => exact wpAny_formatField_none (fin _ rfl s.heap _ _ fun _ _ e => e)
  | bool b => exact wpAny_formatField_bool (fin _ (by cases b <;> rfl) s.heap _ _ fun _ _ e => e)
  | int i t => exact wpAny_formatField_int (by simpa [PyData.showable] using z.2.1) (fin _ rfl s.heap _ _ fun _ _ e => e)
  | str x t => exact wpAny_formatField_str (fin _ rfl s.heap _ _ fun _ _ e => e) (fin _ rfl s.heap _ _ fun _ _ e => e) hl
  | list h1 h2 h3 h4 => exact formatField_of_reads (.list h1 h2 h3 h4) z.2.1 (PyData.noDict_hsm z.2.2) c.gd room (fun _ _ e => e) (fin _ rfl) len
  | tuple h1 h2 h3 h4 => exact formatField_of_reads (.tuple h1 h2 h3 h4) z.2.1 (PyData.noDict_hsm z.2.2) c.gd room (fun _ _ e => e) (fin _ rfl) len
  | dict h1 h2 h3 h4 h5 => cases hd
/-- {x} of data -/
def rFmtD (K : PySem.W.Frag) (t : RX) : RX := fun σ H Q W => t σ H (fun v H1 => ∃ d, Dp K H1 v d ∧ RpOk d ∧ (toldS d).length ≤ sizeLine ∧ Q (.str (toldS d)) H1) W
theorem s_fmtD (h : SX X j t e) : SX X j (rFmtD X.K t) (.FormattedValue e (-1) none pos) := ⟨fun {W} c σ H Q q H1 x pins s I => by
  refine wpAny_FormattedValue_plain (thn (h.run c q H1 x pins s I) fun v s1 ⟨v', H2, I2, r, H3, x3, d, hd, ok, hl, q⟩ => ?_)
  exact fmt_data c I2 (Dp.ex x3 hd) r ok hl ⟨H3, x3, q⟩⟩
theorem repr_data {pins : List (Addr × Obj)} {s : Shared} {σ : St} {H : Hp} {v : V} {u : Value} {d : PyData} {R : Value → Shared → Prop} (c : Cn X W k) (I : Inv X pins σ H s) (hd : Dp X.K H v d) (ru : RelV v u) (ok : RpOk d) (q : ∀ h' t tk, (∀ b o, s.heap.get? b = some o → h'.get? b = some o) → R (.str d.shown t) { s with heap := h', toks := tk }) :
    wpAny (model X.prog X.w) X.A (pyReprObj u) R X.xe s := by
  obtain ⟨as, rd⟩ := Dp.reads I d v u hd ru
  have z := fits.short d ok.f
  have len : d.shown.length ≤ sizeLine := Nat.le_trans ok.len (by decide)
  have room : X.A.units + d.depth < cLine := by
    have := c.room.units
    have := ok.p
    omega
  cases rd with
  | none => exact pyReprObj_none (q s.heap _ _ fun _ _ e => e)
  | bool b => exact pyReprObj_bool (by cases b <;> exact q s.heap _ _ fun _ _ e => e)
  | int i t => exact pyReprObj_int (by simpa [PyData.showable] using z.2.1) (q s.heap _ _ fun _ _ e => e)
  | str x t => exact pyReprObj_str (by simpa only [PyData.shown] using q s.heap _ _ fun _ _ e => e) (by simpa only [PyData.shown] using len)
  | list h1 h2 h3 h4 => exact pyReprObj_of_reads (.list h1 h2 h3 h4) z.2.1 (PyData.noDict_hsm z.2.2) c.gd room (fun _ _ e => e) q len
  | tuple h1 h2 h3 h4 => exact pyReprObj_of_reads (.tuple h1 h2 h3 h4) z.2.1 (PyData.noDict_hsm z.2.2) c.gd room (fun _ _ e => e) q len
  | dict h1 h2 h3 h4 h5 => cases hd
/-- {x!r} of data -/
def rFmtR (K : PySem.W.Frag) (t : RX) : RX := fun σ H Q W => t σ H (fun v H1 => ∃ d, Dp K H1 v d ∧ RpOk d ∧ Q (.str d.shown) H1) W
theorem s_fmtR (h : SX X j t e) : SX X j (rFmtR X.K t) (.FormattedValue e 114 none pos) := ⟨fun {W} c σ H Q q H1 x pins s I => by
  refine wpAny_FormattedValue_repr (thn (h.run c q H1 x pins s I) fun v s1 ⟨v', H2, I2, r, H3, x3, d, hd, ok, q⟩ => ?_)
  have len : d.shown.length ≤ sizeLine := Nat.le_trans ok.len (by decide)
  refine repr_data c I2 (Dp.ex x3 hd) r ok fun h' t tk hk => ?_
  have I3 : Inv X pins _ H2 { s1 with heap := h', toks := tk } := I2.kept (fun b o e => hk b o e)
  exact wpAny_formatField_str ⟨.str d.shown, H2, I3, ⟨_, rfl⟩, H3, x3, q⟩ ⟨.str d.shown, H2, I3.tok _, ⟨_, rfl⟩, H3, x3, q⟩ len⟩
/-- str(x) of data -/
def cStr (K : PySem.W.Frag) : RC := c1 fun x H Q => ∃ d, Dp K H x d ∧ RpOk d ∧ Q (.str (toldS d)) H
theorem str_data {pins : List (Addr × Obj)} {s : Shared} {σ : St} {H : Hp} {v : V} {u : Value} {d : PyData} {Q : VK} (c : Cn X W k) (I : Inv X pins σ H s) (hd : Dp X.K H v d) (ru : RelV v u) (ok : RpOk d) (q : Q (.str (toldS d)) H) :
    wpAny (model X.prog X.w) X.A (call (.type "str") [u]) (EP X pins σ Q) X.xe s := by
  obtain ⟨as, rd⟩ := Dp.reads I d v u hd ru
  have z := fits.short d ok.f
  have len : d.shown.length ≤ sizeLine := Nat.le_trans ok.len (by decide)
  have room : X.A.units + (d.depth + 3) < cLine := by
    have := c.room.units
    have := ok.p
    omega
  have fin : ∀ y : Str, toldS d = y → ∀ h' t tk, (∀ b o, s.heap.get? b = some o → h'.get? b = some o) → EP X pins σ Q (.str y t) { s with heap := h', toks := tk } := fun y ey h' t tk hk =>
    ⟨.str y, H, I.kept (fun b o e => hk b o e), ⟨t, rfl⟩, by rw [← ey]; exact q⟩
  cases rd with
  | none => exact PySem.P.str_of_none (fin _ rfl s.heap _ _ fun _ _ e => e)
  | bool b => exact PySem.P.str_of_bool (fin _ (by cases b <;> rfl) s.heap _ _ fun _ _ e => e)
  | int i t => exact PySem.P.str_of_int (by simpa [PyData.showable] using z.2.1) (fin _ rfl s.heap _ _ fun _ _ e => e)
  | str x t => exact PySem.P.str_of_str (fin _ rfl s.heap _ _ fun _ _ e => e)
  | list h1 h2 h3 h4 => exact str_of_reads (.list h1 h2 h3 h4) z.2.1 (PyData.noDict_hsm z.2.2) c.gd room (fun _ _ e => e) (fin _ rfl) len
  | tuple h1 h2 h3 h4 => exact str_of_reads (.tuple h1 h2 h3 h4) z.2.1 (PyData.noDict_hsm z.2.2) c.gd room (fun _ _ e => e) (fin _ rfl) len
  | dict h1 h2 h3 h4 h5 => cases hd
theorem s_strC (hm : X.mg "str" = none) {tr : RA} {p : Pos} (ha : SA X j tr [e]) (hg : Gl X "str" := by rfl) (he : starEach [e] X.env = (false, eval e X.env) :: starEach [] X.env := by rfl) (hpl : (backTo pos (starEach [] X.env)).any (·.1) = false := by rfl) : SX X j (rB (cStr X.K) tr) (.Call (.Name "str" p) [e] [] pos) :=
  ⟨fun c _ _ _ q => we_callTy hm PyProof.Rows.boot_str ((ha.run c q).mono fun vs H q => by
    cases vs with
    | nil => exact q.elim
    | cons x r => cases r with
      | nil =>
        obtain ⟨d, h, ok, q⟩ := q
        intro H1 x1 pins s σ us I rv
        obtain ⟨u, rfl, ru⟩ := rv.one
        exact str_data c I (Dp.ex x1 h) ru ok ⟨_, x1, q⟩
      | cons _ _ => exact q.elim) hg (by decide) (by decide) he hpl⟩
end
/-! ## texts that can be laid -/
theorem ok_app {a b : Str} (h1 : PyData.strOk a = true) (h2 : PyData.strOk b = true) : PyData.strOk (a ++ b) = true := by
  unfold PyData.strOk at *
  show (a.cps ++ b.cps).all _ = true
  rw [Array.all_append, h1, h2]
  rfl
theorem ok_str (s : String) : PyData.strOk (Str.ofString s) = true := by
  unfold PyData.strOk Str.ofString
  rw [cpsOfBytes_string, Array.all_eq_true_iff_forall_mem]
  intro c hc
  simp only [List.mem_toArray, List.mem_map] at hc
  obtain ⟨ch, _, rfl⟩ := hc
  have h := ch.valid
  simp only [UInt32.isValidChar, Nat.isValidChar] at h
  have e : ch.toNat = ch.val.toNat := rfl
  rw [decide_eq_true_eq, e]
  omega
theorem ok_from : ∀ (ts : List Str) (k : Nat) (acc : Str), PyData.strOk acc = true → (∀ t ∈ ts, PyData.strOk t = true) → PyData.strOk (textFrom k acc ts) = true
  | [], k, acc, h, _ => h
  | t :: r, k, acc, h, ht => by
    refine ok_from r (k + 1) (acc ++ (if k > 0 then ", " else "" : String) ++ t) (ok_app (ok_app h (ok_str _)) (ht t (List.mem_cons_self ..))) fun t' h' => ht t' (List.mem_cons_of_mem _ h')
theorem ok_ints (xs : List Int) : PyData.strOk (PyData.shown (.list (xs.map PyData.int))) = true := by
  simp only [PyData.shown]
  unfold listText
  refine ok_app (ok_from _ _ _ (ok_str _) fun t ht => ?_) (ok_str _)
  induction xs with
  | nil => simp [PyData.shownAll] at ht
  | cons x xs ih =>
    simp only [List.map_cons, PyData.shownAll, List.mem_cons] at ht
    rcases ht with rfl | ht
    · exact ok_str _
    · exact ih ht
/-! ## repr of a queue -/
def numT (q : Qst) : Str := ((((((((Str.empty ++ "capacity=") ++ Str.ofString (toString (q.size : Int))) ++ ", start=") ++ Str.ofString (toString q.first)) ++ ", passed=") ++ Str.ofString (toString q.mark)) ++ ", newest=") ++ toldS (optD q.latest))
def Qst.text (q : Qst) : Str := (((((Str.empty ++ "Queue(") ++ numT q) ++ ", waiting=") ++ PyData.shown (.list (q.kept.map PyData.int))) ++ ")")
theorem ok_opt (o : Option Int) : PyData.strOk (toldS (optD o)) = true := by cases o <;> exact ok_str _
theorem ok_none : PyData.strOk Str.empty = true := by decide +kernel
theorem num_ok (q : Qst) : PyData.strOk (numT q) = true := ok_app (ok_app (ok_app (ok_app (ok_app (ok_app (ok_app (ok_app ok_none (ok_str _)) (ok_str _)) (ok_str _)) (ok_str _)) (ok_str _)) (ok_str _)) (ok_str _)) (ok_opt _)
theorem Qst.text_ok (q : Qst) : PyData.strOk q.text = true := ok_app (ok_app (ok_app (ok_app (ok_app ok_none (ok_str _)) (num_ok q)) (ok_str _)) (ok_ints _)) (ok_str _)
theorem ofs_len {i : Int} (h : i.natAbs < 10 ^ 120) : (Str.ofString (toString i)).length ≤ 130 := int_shown h
theorem lt_app {a b : Str} {n m : Nat} (h1 : a.length ≤ n) (h2 : b.length ≤ m) : (a ++ b).length ≤ n + m := by
  rw [strLen_append]
  omega
theorem opt_len {o : Option Int} (h : ∀ i, o = some i → -1 ≤ i ∧ Big i) : (toldS (optD o)).length ≤ 130 := by
  cases o with
  | none => decide +kernel
  | some i =>
    have := h i rfl
    unfold Big at this
    exact ofs_len (by omega)
theorem kept_len {q : Qst} (ok : QOk q) : (PyData.shown (.list (q.kept.map PyData.int))).length ≤ 2640130 := by
  have kl := ok.klen
  have c9 := ok.c9
  refine RpOk.len (.mk ?_ ?_ ?_)
  · simp only [fits]
    exact ok.kfits
  · simp [PyData.bulk, bulk_ints]
    omega
  · simp [PyData.depth, depth_ints]
theorem kept_rp {q : Qst} (ok : QOk q) : RpOk (.list (q.kept.map PyData.int)) := by
  have kl := ok.klen
  have c9 := ok.c9
  refine .mk ?_ ?_ ?_
  · simp only [fits]
    exact ok.kfits
  · simp [PyData.bulk, bulk_ints]
    omega
  · simp [PyData.depth, depth_ints]
theorem opt_rp {o : Option Int} (h : ∀ i, o = some i → -1 ≤ i ∧ Big i) : RpOk (optD o) := by
  refine .mk (optD_fits h) ?_ ?_ <;> cases o <;> simp [optD, PyData.bulk, PyData.depth]
/-! ## a queue by itself -/
structure Ly (C : Addr) (H0 H : Hp) (x kl cl : Addr) (q : Qst) (B : Int) (n : Nat) : Prop where
  a : Q1 C H0 H x kl cl q
  ok : QOk q
  pw : q.kept.Pairwise (· < ·)
  km : ∀ v ∈ q.kept, q.mark < v
  m0 : 0 ≤ q.most
  m1 : q.most ≤ q.bound + 1
  b1 : q.bound ≤ B
  b2 : q.mark ≤ B
  calls : q.calls.length ≤ n
  s : Sim q
section
variable {C : Addr} {H0 H H' : Hp} {x kl kl2 cl : Addr} {q : Qst} {n n2 : Nat} {B B2 : Int}
theorem Ly.ex (l : Ly C H0 H x kl cl q B n) (e : Ex H H') : Ly C H0 H' x kl cl q B n := ⟨l.a.ex e, l.ok, l.pw, l.km, l.m0, l.m1, l.b1, l.b2, l.calls, l.s⟩
theorem Ly.weak (l : Ly C H0 H x kl cl q B n) (hB : B ≤ B2) (hn : n ≤ n2) : Ly C H0 H x kl cl q B2 n2 := ⟨l.a, l.ok, l.pw, l.km, l.m0, l.m1, Int.le_trans l.b1 hB, Int.le_trans l.b2 hB, Nat.le_trans l.calls hn, l.s⟩
theorem Ly.most (l : Ly C H0 H x kl cl q B n) : 0 ≤ q.most ∧ q.most < 2000000000000000000000000000000000000000000000000000000000000000 := by
  have b1 := l.ok.b1
  have := l.m0
  have := l.m1
  unfold Big at b1
  omega
theorem Ly.arrive (l : Ly C H0 H x kl cl q B n) {lo hi : Int} (h : q.bound < lo) (hl : lo ≤ hi) (hb : Big hi) (hB : B ≤ B2) (hB2 : hi ≤ B2) (hn : n < 90000) (a : Q1 C H0 H' x kl2 cl (q.arrive lo hi)) : Ly C H0 H' x kl2 cl (q.arrive lo hi) B2 (n + 1) := by
  have w := l.ok.wok h
  have e1 : (q.arrive lo hi).kept = aftA q.kept (mx lo (q.mark + 1)) hi q.size := rfl
  have b0 := l.ok.b0
  have f0 := l.ok.f0
  have mk0 := l.ok.m0
  have m0 := l.m0
  have m1 := l.m1
  refine ⟨a, l.ok.arrive h hl hb (by have := l.calls; omega), ?_, fun v hv => ?_, ?_, ?_, hB2, Int.le_trans l.b2 hB, by show (q.calls ++ [_]).length ≤ n + 1; have := l.calls; simp; omega, l.s.arrive lo hi⟩
  · rw [e1]
    exact aftA_pw w l.pw
  · rw [e1] at hv
    show q.mark < v
    unfold aftA at hv
    split at hv
    · exact l.km v hv
    · rcases aftR_cand w l.pw (by omega) v hv with z | z
      · exact l.km v z
      · have := (mx_le lo (q.mark + 1)).2
        omega
  · show 0 ≤ mx q.most _
    have := (mx_le q.most (mx 0 (hi - q.mark))).1
    omega
  · show mx q.most (mx 0 (hi - q.mark)) ≤ hi + 1
    unfold mx
    split <;> (try split) <;> omega
theorem Ly.advance (l : Ly C H0 H x kl cl q B n) {mk : Int} (h0 : 0 ≤ mk) (hb : Big mk) (hB : B ≤ B2) (hB2 : mk ≤ B2) (hn : n < 90000) (a : Q1 C H0 H' x kl2 cl (q.advance mk)) : Ly C H0 H' x kl2 cl (q.advance mk) B2 (n + 1) :=
  ⟨a, l.ok.advance h0 hb (by have := l.calls; omega), l.pw.sublist List.filter_sublist, fun v hv => of_decide_eq_true (List.mem_filter.mp hv).2, l.m0, l.m1, Int.le_trans l.b1 hB, hB2, by show (q.calls ++ [_]).length ≤ n + 1; have := l.calls; simp; omega, l.s.advance mk⟩
end
/-- one step of a law's queue -/
def StpQ (q q2 : Qst) (first way : Int) : Prop := (0 ≤ way ∧ way < 6 ∧ ∃ hi, first ≤ hi ∧ q2 = q.arrive first hi) ∨ (6 ≤ way ∧ way < 8 ∧ ∃ g, q.mark < g ∧ q2 = q.advance g)
/-! ## one by one -/
theorem forecast_kept {q : Qst} {n : Int} : (q.arrive (q.bound + 1) (q.bound + n)).kept = q.forecast n := by
  show aftA q.kept _ (q.bound + n) q.size = aftA q.kept _ (q.bound + 1 + n - 1) q.size
  congr 1
  omega
theorem forecast_zero {q : Qst} : q.forecast 0 = q.kept := by
  unfold Qst.forecast aftA
  rw [if_pos (by have := (mx_le (q.bound + 1) (q.mark + 1)).1; omega)]
/-- k versions pushed -/
def pushN (q : Qst) : Nat → Qst
  | 0 => q
  | k + 1 => (pushN q k).arrive (q.bound + k + 1) (q.bound + k + 1)
theorem pushN_bound (q : Qst) : ∀ k : Nat, (pushN q k).bound = q.bound + k
  | 0 => by show q.bound = q.bound + ((0 : Nat) : Int); omega
  | k + 1 => by show q.bound + k + 1 = q.bound + ((k + 1 : Nat) : Int); omega
theorem pushN_mark (q : Qst) : ∀ k : Nat, (pushN q k).mark = q.mark
  | 0 => rfl
  | k + 1 => pushN_mark q k
theorem pushN_size (q : Qst) : ∀ k : Nat, (pushN q k).size = q.size
  | 0 => rfl
  | k + 1 => pushN_size q k
theorem pushN_kept {q : Qst} (ok : QOk q) (pw : q.kept.Pairwise (· < ·)) : ∀ k : Nat, (pushN q k).kept = q.forecast k
  | 0 => forecast_zero.symm
  | k + 1 => by
    have w := ok.wok (show q.bound < q.bound + 1 by omega)
    have ih := pushN_kept ok pw k
    have hm := mx_le (q.bound + 1) (q.mark + 1)
    have hm2 : mx (q.bound + 1) (q.mark + 1) = q.bound + 1 ∨ mx (q.bound + 1) (q.mark + 1) = q.mark + 1 := by unfold mx; split <;> omega
    show aftA (pushN q k).kept (mx (q.bound + k + 1) ((pushN q k).mark + 1)) (q.bound + k + 1) (pushN q k).size = aftA q.kept (mx (q.bound + 1) (q.mark + 1)) (q.bound + 1 + ((k + 1 : Nat) : Int) - 1) q.size
    rw [pushN_mark, pushN_size, ih]
    have e1 : q.bound + 1 + ((k + 1 : Nat) : Int) - 1 = q.bound + k + 1 := by omega
    rw [e1]
    have ef : q.forecast k = aftA q.kept (mx (q.bound + 1) (q.mark + 1)) (q.bound + k) q.size := by
      unfold Qst.forecast
      congr 1
      omega
    rw [ef]
    generalize mx (q.bound + 1) (q.mark + 1) = lo at *
    by_cases hv : q.bound + k + 1 < q.mark + 1
    · have em : mx (q.bound + k + 1) (q.mark + 1) = q.mark + 1 := by unfold mx; split <;> omega
      rw [em]
      unfold aftA
      rw [if_pos hv, if_pos (show q.bound + k < lo by omega), if_pos (show q.bound + k + 1 < lo by omega)]
    · have em : mx (q.bound + k + 1) (q.mark + 1) = q.bound + k + 1 := by unfold mx; split <;> omega
      rw [em]
      by_cases hlo : q.bound + k < lo
      · have el : lo = q.bound + k + 1 := by omega
        unfold aftA
        rw [if_neg (Int.lt_irrefl _), if_pos hlo, if_neg (show ¬ q.bound + k + 1 < lo by omega), ← el]
      · unfold aftA
        rw [if_neg (Int.lt_irrefl _), if_neg hlo, if_neg (show ¬ q.bound + k + 1 < lo by omega)]
        exact (aft_step w pw (by omega)).symm
/-! ## a comprehension over a range that makes things -/
section
variable {n m : Nat} {elt : RX} {σ : St} {H : Hp} {Q : VK}
theorem lc_growR (P : Nat → V → Hp → Prop) (mono : ∀ i y H1 H2, Ex H1 H2 → P i y H1 → P i y H2) (hn : n < 100000)
    (turn : ∀ (i : Nat) d acc H' (R : VK), i < n → Ex H H' → H' d = none → (∀ y H5, Ex (upd H' d (.lst acc)) H5 → P i y (del H5 d) → R y H5) → elt (put (wipe σ [m]) m (.int i)) (upd H' d (.lst acc)) R noW)
    (done : ∀ ys q H', Ex H H' → ys.length = n → (∀ i y, ys[i]? = some y → P i y H') → H' q = none → Q (.ref q) (upd H' q (.lst ys))) : LcB n (fun _ => True) (fun i H k => k (.int i) H) (gName m) tY elt [m] σ H Q :=
  lcB (fun i acc H' => Ex H H' ∧ acc.length = i ∧ ∀ k y, acc[k]? = some y → P k y H') ⟨Ex.refl _, rfl, fun _ _ z => by simp at z⟩ (fun i acc H' hi p => ⟨trivial, by have := p.2.1; omega⟩) (fun i acc H' d hi p nd => by
    obtain ⟨x1, hl, hp⟩ := p
    refine ⟨wipe_put, fun _ => turn i d _ _ _ hi x1 nd fun y H5 x5 h5 => ?_, fun z => nomatch z⟩
    have e5 : H5 d = some (.lst acc) := x5 _ _ upd_same
    have x6 : Ex H' (del H5 d) := fun b o e => by
      have nb : b ≠ d := ne_of_none e nd
      rw [del_ne nb]
      exact x5 _ _ (by rw [upd_ne nb]; exact e)
    refine ⟨del H5 d, del_same, fun b o e => ?_, x1.trans x6, by simp [hl], fun k y' hk => ?_⟩
    · by_cases z : b = d
      · subst z; rw [upd_same] at e; cases e; exact e5
      · rw [upd_ne z, del_ne z] at e; exact e
    by_cases hk2 : k < acc.length
    · exact mono _ _ _ _ x6 (hp k y' (by rwa [List.getElem?_append_left hk2] at hk))
    · rw [List.getElem?_append_right (by omega)] at hk
      have : k - acc.length = 0 := by
        cases e : k - acc.length with
        | zero => rfl
        | succ j => rw [e] at hk; simp at hk
      have e : k = i := by omega
      subst e
      rw [this] at hk
      simp at hk
      subst hk
      exact h5) fun acc H' q p nq => by
    obtain ⟨x1, hl, hp⟩ := p
    exact done acc q H' x1 hl hp nq
end
/-! ## what drops tell -/
def dropD : Option Drop → PyData
  | none => .none
  | some d => d.data
theorem dropD_lay (o : Option Drop) : PyData.canLay0 (dropD o) = true := by
  cases o with
  | none => rfl
  | some d => simp [dropD, Drop.data, PyData.canLay0, PyData.canLayAll0, lay_ints]
theorem dropD_depth (o : Option Drop) : (dropD o).depth ≤ 2 := by
  cases o with
  | none => simp [dropD, PyData.depth]
  | some d => simp [dropD, Drop.data, PyData.depth, PyData.depthAll, depth_ints]
/-- the data of a drop in the heap -/
theorem drop_dp {K : PySem.W.Frag} {H : Hp} {t r2 : Addr} {d : Drop} (e1 : H t = some (.tup [.int d.1, .int d.2.1, .ref r2])) (e2 : H r2 = some (.tup (d.2.2.map V.int))) : Dp K H (.ref t) d.data := .tup (.of e1) (.cons (.int _) (.cons (.int _) (.cons (.tup (.of e2) (dp_ints _)) .nil)))
/-! ## dicts with keys ints and texts -/
section
variable {X : Cx} {j : Nat} {W : WX} {e f o i : Expr} {σ : St} {H H1 : Hp} {Q : VK} {D : Ends} {pos p pos' apos cpos tpos : Pos} {t to ti tf : RX} {r : RO} {rc : RC} {tr : RA}
/-- d[k], there -/
def rDGet (to ti : RX) : RX := fun σ H Q W => to σ H (fun x H1 => ti σ H1 (fun y H2 => ∃ a kvs k v, x = .ref a ∧ H2 a = some (.dK kvs) ∧ y = kV k ∧ valV kvs k = some v ∧ Q v H2) W) W
theorem s_dget (ho : SX X j to o) (hi : SX X j ti i) (hs : NoSl i := by intro _ _; rfl) : SX X j (rDGet to ti) (.Subscript o i pos) :=
  ⟨fun c σ H Q h => .of (pe_dget (by have := c.room.units; omega) pe_W pe_W hs) fun H1 x => (ho.run c h).t x fun v H2 ⟨H3, x3, h⟩ => (hi.run c h).t x3 fun u H4 ⟨H5, x5, a, kvs, k, w, e1, g, ey, l, q⟩ => by
    subst ey
    exact ⟨a, w, e1, by rw [← l]; exact DGet.k (x5 _ _ g), H5, x5, q⟩⟩
/-- k in d -/
def oInK : RO := fun x y H Q => ∃ a kvs k, y = .ref a ∧ H a = some (.dK kvs) ∧ x = kV k ∧ Q (.bl (valV kvs k).isSome) H
def oNiK : RO := fun x y H Q => ∃ a kvs k, y = .ref a ∧ H a = some (.dK kvs) ∧ x = kV k ∧ Q (.bl (!(valV kvs k).isSome)) H
theorem o_inK : SOr2 X (compareOp .In) oInK := fun hu x y H Q ⟨a, kvs, k, ey, g, ex, q⟩ H1 e pins s σ v u I rx ry => by
  subst ey ex
  obtain rfl : u = Value.ref a := ry
  exact d_in (by omega) I (DGet.k (e _ _ g)) rx fun s' I' => ⟨.bl _, H1, I', rfl, H, e, q⟩
theorem o_niK : SOr2 X (compareOp .NotIn) oNiK := fun hu x y H Q ⟨a, kvs, k, ey, g, ex, q⟩ H1 e pins s σ v u I rx ry => by
  subst ey ex
  obtain rfl : u = Value.ref a := ry
  exact d_notIn (by omega) I (DGet.k (e _ _ g)) rx fun s' I' => ⟨.bl _, H1, I', rfl, H, e, q⟩
/-- d.get(k), d.get(k, x) -/
def rGet1 (to ti : RX) : RX := fun σ H Q W => to σ H (fun x H1 => ∃ a, x = .ref a ∧ (∃ kvs, H1 a = some (.dK kvs)) ∧ ti σ H1 (fun y H2 => ∃ kvs k, H2 a = some (.dK kvs) ∧ y = kV k ∧ Q ((valV kvs k).getD .non) H2) W) W
def rGet2 (to ti tf : RX) : RX := fun σ H Q W => to σ H (fun x H1 => ∃ a, x = .ref a ∧ (∃ kvs, H1 a = some (.dK kvs)) ∧ ti σ H1 (fun y H2 => tf σ H2 (fun z H3 => ∃ kvs k, H3 a = some (.dK kvs) ∧ y = kV k ∧ Q ((valV kvs k).getD z) H3) W) W) W
theorem s_get1 (ho : SX X j to o) (hi : SX X j ti e) (m : M1 X o "get" apos e cpos := by exact ⟨rfl, rfl, rfl, rfl⟩) : SX X j (rGet1 to ti) (.Call (.Attribute o "get" apos) [e] [] cpos) :=
  ⟨fun c σ H Q h => .of (pe_dget1 (by have := c.room.units; omega) pe_W pe_W m) fun H1 x => (ho.run c h).t x fun v H2 ⟨H3, x3, a, e1, ⟨kvs, g⟩, h⟩ => ⟨a, e1, .inl ⟨kvs, .inl (x3 _ _ g)⟩, (hi.run c h).t x3 fun u H4 ⟨H5, x5, kvs, k, g, ey, q⟩ => by
    subst ey
    exact ⟨_, DGet.k (x5 _ _ g), H5, x5, q⟩⟩⟩
theorem s_get2 (ho : SX X j to o) (hi : SX X j ti e) (hf : SX X j tf f) (m : M2 X o "get" apos e f cpos := by exact ⟨rfl, rfl, rfl, rfl⟩) : SX X j (rGet2 to ti tf) (.Call (.Attribute o "get" apos) [e, f] [] cpos) :=
  ⟨fun c σ H Q h => .of (pe_dget2 (by have := c.room.units; omega) pe_W pe_W pe_W m) fun H1 x => (ho.run c h).t x fun v H2 ⟨H3, x3, a, e1, ⟨kvs, g⟩, h⟩ => ⟨a, e1, .inl ⟨kvs, .inl (x3 _ _ g)⟩, (hi.run c h).t x3 fun u H4 ⟨H5, x5, h⟩ => (hf.run c h).t x5 fun z H6 ⟨H7, x7, kvs, k, g, ey, q⟩ => by
    subst ey
    exact ⟨_, DGet.k (x7 _ _ g), H7, x7, q⟩⟩⟩
/-- d.setdefault(k, x) is left; displays -/
def rPairs : List (RX × RX) → St → Hp → (List (V × V) → Hp → Prop) → WX → Prop
  | [], _, H, Q, _ => Q [] H
  | (tk, tv) :: r, σ, H, Q, W => tk σ H (fun x H1 => tv σ H1 (fun y H2 => rPairs r σ H2 (fun ps H3 => Q ((x, y) :: ps) H3) W) W) W
inductive SPs (X : Cx) (j : Nat) : List (RX × RX) → List (Option Expr) → List Expr → Prop where
  | nil : SPs X j [] [] []
  | cons {tk tv : RX} {k v : Expr} {trs : List (RX × RX)} {ks : List (Option Expr)} {vs : List Expr} (hk : SX X j tk k) (hv : SX X j tv v) (r : SPs X j trs ks vs) : SPs X j ((tk, tv) :: trs) (some k :: ks) (v :: vs)
theorem SPs.pps {trs : List (RX × RX)} {ks : List (Option Expr)} {vs : List Expr} (h : SPs X j trs ks vs) : ∃ trs', PPs X pos ks vs trs' ∧ ∀ {W : WX}, Cn X (upW W) j → ∀ {σ : St} {H H1 : Hp} {Q R : List (V × V) → Hp → Prop}, Ex H H1 → rPairs trs σ H Q W → (∀ ps H2 H3, Ex H3 H2 → Q ps H3 → R ps H2) → tPairs trs' σ H1 R := by
  induction h with
  | nil => exact ⟨[], pps_nil, fun {W} c {σ H H1 Q R} x q k => k _ _ _ x q⟩
  | @cons tk tv k v trs ks vs hk hv r ih =>
    obtain ⟨trs', hp, hr⟩ := ih
    refine ⟨(tWE X k, tWE X v) :: trs', pps_cons pe_W pe_W hp, fun {W} c {σ H H1 Q R} x q kk => ?_⟩
    exact (hk.run c q).t x fun u H2 ⟨H3, x3, q⟩ => (hv.run c q).t x3 fun w H4 ⟨H5, x5, q⟩ => hr c x5 q fun ps H6 H7 x7 q => kk _ _ _ x7 q
def rDisp (trs : List (RX × RX)) : RX := fun σ H Q W => ∀ p, H p = none → rPairs trs σ (upd H p (.dK [])) (fun ps H2 => H2 p = some (.dK []) ∧ ∃ kvs : List (Key × V), ps = kvs.map (fun kv => (kV kv.1, kv.2)) ∧ kvs.length ≤ 15 ∧ Q (.ref p) (upd H2 p (.dK (mergeK [] kvs)))) W
theorem s_disp {trs : List (RX × RX)} {keys : List (Option Expr)} {values : List Expr} (h : SPs X j trs keys values) (hall : keys.all (·.isSome) = true := by rfl) (hl : keys.length = values.length := by rfl) (h0 : keys ≠ [] := by intro z; cases z) (h15 : keys.length ≤ 15 := by decide) : SX X j (rDisp trs) (.Dict keys values pos) := by
  obtain ⟨trs', hp, hr⟩ := h.pps (pos := pos)
  exact ⟨fun c σ H Q q => .of (pe_disp hp hall hl h0 h15) fun H1 x p np =>
    hr c (x.set p (.dK [])) (q p (x.free np)) fun ps H2 H3 x3 ⟨g, kvs, ep, l15, q⟩ => ⟨x3 _ _ g, kvs, ep, l15, _, x3.set p _, q⟩⟩
/-- del d[k] -/
def zDel (to ti : RX) : RS := fun D W σ H => to σ H (fun x H1 => ti σ H1 (fun y H2 => ∃ a kvs k, x = .ref a ∧ H2 a = some (.dK kvs) ∧ y = kV k ∧ (valV kvs k).isSome = true ∧ D.nx σ (upd H2 a (.dK (dropK kvs k)))) W) W
theorem z_del (ho : SX X j to o) (hi : SX X j ti i) : SS X j (zDel to ti) (.Delete [.Subscript o i tpos] pos) := ⟨fun cn _ _ _ _ q =>
  .of (ps_ddel pe_W pe_W) fun H1 x => (ho.run cn q).t x fun v H2 ⟨H3, x3, q⟩ => (hi.run cn q).t x3 fun u H4 ⟨H5, x5, a, kvs, k, e, g, ey, l, q⟩ => ⟨a, kvs, k, e, x5 _ _ g, ey, l, _, x5.set a _, q⟩⟩
/-- d[k] op= e -/
def zDAug (r : RO) (to ti te : RX) : RS := fun D W σ H => to σ H (fun x H1 => ti σ H1 (fun y H2 => ∃ a kvs k v, x = .ref a ∧ H2 a = some (.dK kvs) ∧ y = kV k ∧ valV kvs k = some v ∧ te σ H2 (fun y2 H3 => r v y2 H3 fun z H4 => ∃ kvs2, H4 a = some (.dK kvs2) ∧ kvs2.length < 100000 ∧ D.nx σ (upd H4 a (.dK (putK kvs2 k z)))) W) W) W
/-- dict(d), list(d), sorted(d) -/
def cDictD : RC := c1 fun x H Q => ∃ a kvs, x = .ref a ∧ H a = some (.dK kvs) ∧ ∀ p, H p = none → Q (.ref p) (upd H p (.dK kvs))
theorem c_dictD : SC X (.type "dict") cDictD := sc1 fun x H Q ⟨a, kvs, e, g, q⟩ H1 x1 pins s σ us I r => by
  subst e
  exact call_dictD pins s σ H1 _ us _ I r ⟨a, kvs, rfl, .inl (x1 _ _ g), fun p np => ⟨_, x1.set p _, q p (x1.free np)⟩⟩
def cListD : RC := c1 fun x H Q => ∃ a kvs, x = .ref a ∧ H a = some (.dK kvs) ∧ ∀ p, H p = none → Q (.ref p) (upd H p (.lst (kvs.map fun kv => kV kv.1)))
theorem c_listD (hc : X.calm = true := by rfl) : SC X (.type "list") cListD := sc1 fun x H Q ⟨a, kvs, e, g, q⟩ H1 x1 pins s σ us I r => by
  subst e
  exact call_listD hc pins s σ H1 _ us _ I r ⟨a, kvs, rfl, .inl (x1 _ _ g), fun p np => ⟨_, x1.set p _, q p (x1.free np)⟩⟩
end
/-! ## sorted(set(t)), t a tuple of ints; xs.count(k), bools -/
section
variable {X : Cx} {j : Nat} {e : Expr} {es : List Expr} {σ : St} {H H1 : Hp} {Q : VK} {pos p p2 pos2 : Pos} {tr : RA}
def rSetT (K : PySem.W.Frag) (w : World) : List V → Hp → VK → Prop := fun vs H Q => ∃ (a : Addr) (ns : List Int), vs = [.ref a] ∧ SqT K H a (ns.map V.int) ∧ ns.length ≤ 1000 ∧ ∀ p c, c ≤ ns.length → H p = none → Q (.ref p) (upd H p (SetO w p (fun j => decide (j ∈ ns)) c))
theorem call_setT (hc : X.calm = true) : CallR X (.type "set") (rSetT X.K X.w) := by
  intro pins s σ H vs us Q I r h
  obtain ⟨a, ns, rfl, hs, hl, q⟩ := h
  rw [Vals.ref1 r]
  obtain ⟨its, rv, pl, hz⟩ := I.tuple hs
  have hb : ns.length + 1 < scanBound := Nat.lt_of_le_of_lt (Nat.succ_le_succ hl) (by decide)
  refine call_set_tupI ns (I.ok.hd hc) pl (by rw [show its.toArray.toList = its from rfl]; exact ints_of_vals rv) hb fun h' tk c R hcn hk => ?_
  have hn := I.hok.fresh (Nat.le_refl s.heap.objs.size)
  exact ⟨.ref _, _, I.laid (t' := tk) hk (Nat.le_refl _) (setO_new R), rfl, q _ c hcn hn⟩
def rSortSet (K : PySem.W.Frag) (t : RA) : RX := fun σ H Q W => t σ H (fun vs H1 => ∃ (a : Addr) (ns : List Int), vs = [.ref a] ∧ SqT K H1 a (ns.map V.int) ∧ ns.length ≤ 60 ∧ ∀ (ms : List Int) (p : Addr) (H2 : Hp), Ex H1 H2 → ms.Pairwise (· < ·) → (∀ k : Int, k ∈ ms ↔ k ∈ ns) → H2 p = none → Q (.ref p) (upd H2 p (.lst (ms.map V.int)))) W
theorem s_sortSet (hm : X.mg "sorted" = none) (hm2 : X.mg "set" = none) (ha : SA X j tr (e :: es)) (hc : X.calm = true := by rfl) (hg : Gl X "sorted" := by rfl) (hg2 : Gl X "set" := by rfl)
    (he : starEach (e :: es) X.env = (false, eval e X.env) :: starEach es X.env := by rfl) (hpl : (backTo pos2 (starEach es X.env)).any (·.1) = false := by rfl)
    (he2 : starEach [.Call (.Name "set" p2) (e :: es) [] pos2] X.env = (false, eval (.Call (.Name "set" p2) (e :: es) [] pos2) X.env) :: starEach [] X.env := by rfl) (hpl2 : (backTo pos (starEach [] X.env)).any (·.1) = false := by rfl) :
    SX X j (rSortSet X.K tr) (.Call (.Name "sorted" p) [.Call (.Name "set" p2) (e :: es) [] pos2] [] pos) :=
  ⟨fun c σ H Q q => we_callB hm PyProof.Rows.boot_sorted (wa_cons (we_callTy hm2 PyProof.Rows.boot_set ((ha.run c q).mono fun vs H1 ⟨a, ns, ev, hs, hl, q⟩ => .of (call_setT hc) fun H2 x2 => ⟨a, ns, ev, x2.sqT hs, by omega, fun s cn hcn ns0 => ⟨_, Ex.refl _, wa_nil (.of (cr_sortedSet hc) fun H3 x3 => ⟨s, _, cn, rfl, x3 _ _ upd_same, by omega, fun ms p1 pw hm hl2 np1 => ⟨_, Ex.refl _, q ms p1 H3 ((x2.trans (Ex.put ns0)).trans x3) pw (fun k => by rw [hm k, decide_eq_true_eq]) np1⟩⟩)⟩⟩) hg2 (by decide) (by decide) he hpl) he2) hg (by decide) (by decide) he2 hpl2⟩
/-- xs.count(k), bools -/
def mCntB (K : PySem.W.Frag) : RM := fun x vs H Q => ∃ (l : Addr) (bs : List Bool) (k : Bool), x = .ref l ∧ vs = [.bl k] ∧ SqL K H l (bs.map V.bl) ∧ Q (.int (bs.count k : Nat)) H
theorem bools_of_vals : ∀ {bs : List Bool} {us : List Value}, Vals (bs.map V.bl) us → us = bs.map Value.bool
  | [], _, .nil => rfl
  | b :: bs, _, .cons r t => by
    cases (show _ = Value.bool b from r)
    rw [bools_of_vals t]
    rfl
theorem reads_bools (h : Heap) : ∀ bs : List Bool, ∃ as, ReadsAll h (bs.map Value.bool) (bs.map PyData.bool) as
  | [] => ⟨[], .nil⟩
  | b :: bs => by
    obtain ⟨as, r⟩ := reads_bools h bs
    exact ⟨_, .cons (.bool b) r⟩
theorem count_bools (k : Bool) : ∀ bs : List Bool, countIn (.bool k) (bs.map PyData.bool) = ((bs.count k : Nat) : Int)
  | [] => rfl
  | b :: bs => by
    rw [List.map_cons, countIn, count_bools k bs, List.count_cons]
    simp only [same]
    push_cast
    rcases Bool.eq_false_or_eq_true (b == k) with hb | hb <;> simp [hb] <;> omega
theorem mt_countB : MtR X "list.count" (fun x vs H Q => mCntB X.K x vs H Q) := by
  intro pins s σ H x xs v us Q I rx rxs h
  obtain ⟨p, bs, k, rfl, rfl, hs, q⟩ := h
  cases rx
  obtain ⟨u, rfl, ru⟩ := rxs.one
  cases (show u = Value.bool k from ru)
  obtain ⟨its, rv, pl, hz⟩ := I.list hs
  obtain rfl := bools_of_vals rv
  obtain ⟨as, ra⟩ := reads_bools s.heap bs
  have hall : (bs.map PyData.bool).all Shape.bool.has = true := by
    rw [List.all_map, List.all_eq_true]
    intro b _
    rfl
  refine count_list_bools (l := p) (vs := bs.map Value.bool) (hp := s.heap) (as := as) (k := k) pl.isList ra hall ⟨.int (bs.count k : Nat), H, I.tok _, ⟨s.toks, by rw [count_bools]⟩, q⟩
theorem m_cntB : SM X "list.count" (mCntB X.K) := ⟨_, mt_countB, fun x vs H Q ⟨l, bs, k, e1, e2, h, q⟩ H1 x => ⟨l, bs, k, e1, e2, x.sqL h, H, x, q⟩⟩
/-- d.update(e) -/
def mUpd : RM := fun x vs H Q => ∃ a b kvs more, x = .ref a ∧ vs = [.ref b] ∧ a ≠ b ∧ H a = some (.dK kvs) ∧ H b = some (.dK more) ∧ kvs.length + more.length ≤ 100000 ∧ Q .non (upd H a (.dK (mergeK kvs more)))
theorem mt_update : MtR X "dict.update" mUpd := by
  intro pins s σ H x xs v us Q I rx rxs h
  obtain ⟨a, b, kvs, more, rfl, rfl, ne, ha, hb, hl, q⟩ := h
  cases rx
  obtain ⟨u, rfl, ru⟩ := rxs.one
  cases (show u = Value.ref b from ru)
  obtain ⟨z1, hd1, vs1, r1, dd1⟩ := dk_of I.hok ha
  obtain ⟨z2, hd2, vs2, r2, dd2⟩ := dk_of I.hok hb
  have l1 : kvs.length = vs1.length := Paired.length r1
  have l2 : more.length = vs2.length := Paired.length r2
  refine call_meetsIn PySem.F.slot_dict_update dd1.typeIs PySem.F.entry_dict_update (PySem.F.args_dict_update_2 _ _) (meets_dict_update (mixKind X.prog X.w) a b ne hd2) ⟨vs1, vs2, dd1, dd2, by rw [sizeLine_eq]; omega, fun h' d' _ hs => ⟨.non, _, d_write (t' := s.toks) I (by rw [ha]; exact True.intro) hs (let ⟨q, _, _, hq, _⟩ := d'; ⟨q, hq⟩) (dk_new ?_ hd1 (r2.merge r1) d'), rfl, q⟩⟩
  have := length_mergeK more kvs
  rw [sizeLine_eq]
  omega
theorem m_upd : SM X "dict.update" mUpd := ⟨_, mt_update, fun x vs H Q ⟨a, b, kvs, more, e1, e2, ne, h1, h2, hl, q⟩ H1 x => ⟨a, b, kvs, more, e1, e2, ne, x _ _ h1, x _ _ h2, hl, _, x.set a _, q⟩⟩
end
/-! ## the history of a queue: what waits, was dropped, was passed -/
structure ArOk (cap : Nat) (r : Arr) : Prop where
  w : WOk r.w r.low cap
  pw : r.w.Pairwise (· < ·)
  hb : Big r.high
  lh : r.low ≤ r.high
  m0 : -1 ≤ r.mark
  m1 : Big r.mark
theorem bisF_b {r : Arr} {cap : Nat} {v : Int} : ∀ (n : Nat) (p a : Int), 0 ≤ p → 0 ≤ a → Big p → Big a → 0 ≤ (bisF r cap v n p a).1 ∧ Big (bisF r cap v n p a).1 ∧ 0 ≤ (bisF r cap v n p a).2 ∧ Big (bisF r cap v n p a).2
  | 0, p, a, h1, h2, h3, h4 => ⟨h1, h3, h2, h4⟩
  | n + 1, p, a, h1, h2, h3, h4 => by
    have bm : Big ((p + a) / 2) := by unfold Big at *; omega
    unfold bisF
    split
    · split
      · exact bisF_b n _ _ (by omega) h2 bm h4
      · exact bisF_b n _ _ h1 (by omega) h3 bm
    · exact ⟨h1, h3, h2, h4⟩
/-- the bisection finds the arrival that dropped it -/
theorem bisF_at {r : Arr} {cap : Nat} {v : Int} : ∀ (n : Nat) (p a : Int), p < a → (a - p).toNat ≤ n → v ∈ aftA r.w r.low p cap → v ∉ aftA r.w r.low a cap →
    (bisF r cap v n p a).2 = (bisF r cap v n p a).1 + 1 ∧ v ∈ aftA r.w r.low (bisF r cap v n p a).1 cap ∧ v ∉ aftA r.w r.low (bisF r cap v n p a).2 cap ∧ p ≤ (bisF r cap v n p a).1 ∧ (bisF r cap v n p a).2 ≤ a
  | 0, p, a, h1, h2, _, _ => by omega
  | n + 1, p, a, h1, h2, h3, h4 => by
    unfold bisF
    split
    · rename_i hd
      split
      · rename_i hm
        obtain ⟨e1, e2, e3, e4, e5⟩ := bisF_at n ((p + a) / 2) a (by omega) (by omega) hm h4
        exact ⟨e1, e2, e3, by omega, e5⟩
      · rename_i hm
        obtain ⟨e1, e2, e3, e4, e5⟩ := bisF_at n p ((p + a) / 2) (by omega) (by omega) h3 hm
        exact ⟨e1, e2, e3, e4, by omega⟩
    · exact ⟨by show a = p + 1; omega, h3, h4, Int.le_refl _, Int.le_refl _⟩
theorem lawDue_some {cap : Nat} {v : Int} {d : Drop} : ∀ {rs : List Arr}, lawDue cap v rs = some d → ∃ r ∈ rs, d = dropA r cap v ∧ holdsA r v = true ∧ v ∉ aftA r.w r.low r.high cap
  | r :: rs, h => by
    unfold lawDue at h
    split at h
    · rename_i c
      simp only [Bool.and_eq_true, Bool.not_eq_true', decide_eq_false_iff_not] at c
      exact ⟨r, List.mem_cons_self .., by cases h; rfl, c.1, c.2⟩
    · obtain ⟨r', h1, h2⟩ := lawDue_some h
      exact ⟨r', List.mem_cons_of_mem _ h1, h2⟩
theorem lawDue_app (cap : Nat) (v : Int) : ∀ (xs ys : List Arr), lawDue cap v (xs ++ ys) = (lawDue cap v xs).orElse fun _ => lawDue cap v ys
  | [], ys => rfl
  | r :: xs, ys => by
    show (if _ then _ else lawDue cap v (xs ++ ys)) = Option.orElse (if _ then _ else lawDue cap v xs) _
    split
    · rfl
    · exact lawDue_app cap v xs ys
theorem drop_rp {r : Arr} {cap : Nat} {v : Int} (o : ArOk cap r) (v0 : 0 ≤ v) (hv : Big v) : RpOk (Drop.data (dropA r cap v)) := by
  have lw := o.w.l0
  have lh := o.lh
  have hh := o.hb
  have m0 := o.m0
  have m1 := o.m1
  have hm := mx_le v (r.low - 1)
  have mb : Big (mx v (r.low - 1)) := by unfold mx; split <;> (unfold Big at *; omega)
  obtain ⟨b1, b2, b3, b4⟩ := bisF_b (r := r) (cap := cap) (v := v) (r.high - mx v (r.low - 1)).toNat (mx v (r.low - 1)) r.high (by omega) (by omega) mb hh
  have al := aftA_len (v := (bisR r cap v).1) o.w
  have c9 := o.w.c9
  unfold Big at *
  have ob : ∀ x ∈ aftA r.w r.low (bisR r cap v).1 cap, 0 ≤ x ∧ x < 1000000000000000000000000000000000000000000000000000000000000000 := fun x hx => by
    unfold aftA at hx
    split at hx
    · have := o.w.b x hx; omega
    · rename_i h
      rcases aftR_cand o.w o.pw (by omega) x hx with z | z
      · have := o.w.b x z; omega
      · have : (bisR r cap v).1 < 1000000000000000000000000000000000000000000000000000000000000000 := b2
        omega
  have fl := List.length_filter_le (fun x => !decide (x = v)) (aftA r.w r.low (bisR r cap v).1 cap)
  refine RpOk.mk ?_ ?_ ?_
  · simp only [Drop.data, dropA, fits, fitsAll]
    refine ⟨by omega, ?_, fits_ints _ fun x hx => ob x (List.mem_filter.mp hx).1, trivial⟩
    show (bisF r cap v _ _ _).2.natAbs < _
    omega
  · simp [Drop.data, dropA, PyData.bulk, PyData.bulkAll, bulk_ints]
    omega
  · simp [Drop.data, dropA, PyData.depth, PyData.depthAll, depth_ints]
theorem aftA_cand {w : List Int} {lo t : Int} {cap : Nat} (k : WOk w lo cap) (sw : w.Pairwise (· < ·)) : ∀ u ∈ aftA w lo t cap, u ∈ w ∨ (lo ≤ u ∧ u ≤ t) := fun u hu => by
  unfold aftA at hu
  split at hu
  · exact .inl hu
  · exact aftR_cand k sw (by omega) u hu
/-- the newest waits -/
theorem aftR_new {w : List Int} {lo hi : Int} {cap : Nat} (k : WOk w lo cap) (sw : w.Pairwise (· < ·)) (hl : lo ≤ hi) : hi ∈ aftR w lo hi cap := by
  by_cases h : (w.length : Int) + hi - lo + 1 ≤ cap
  · rw [aftR_small h]
    exact List.mem_append_right _ (rgI_mem.mpr ⟨hl, Int.le_refl _⟩)
  · obtain ⟨ks, e, _⟩ := aftR_great k sw hl h
    rw [e]
    simp
/-- the certificate of a drop -/
structure Cert (cap : Nat) (v : Int) (d : Drop) : Prop where
  a : d.1 < v
  b : v < d.2.1
  len : d.2.2.length = cap - 1
  pw : d.2.2.Pairwise (· < ·)
  lo : ∀ o ∈ d.2.2, d.1 < o
  hi : ∀ o ∈ d.2.2, o < d.2.1
  pr : ∀ o ∈ d.2.2, precB o v = true
theorem drop_cert {r : Arr} {cap : Nat} {v : Int} (o : ArOk cap r) (wm : ∀ u ∈ r.w, r.mark < u) (ml : r.mark < r.low) (h1 : holdsA r v = true) (h2 : v ∉ aftA r.w r.low r.high cap) :
    Cert cap v (dropA r cap v) ∧ (dropA r cap v).2.1 ≤ r.high ∧ ∀ u ∈ (dropA r cap v).2.2, u ∈ r.w ∨ (r.low ≤ u ∧ u ≤ r.high) := by
  have lw := o.w.l0
  have lh := o.lh
  have c2 := o.w.c2
  have hm := mx_le v (r.low - 1)
  have hv : v ∈ r.w ∨ (r.low ≤ v ∧ v ≤ r.high) := by
    unfold holdsA at h1
    simpa only [Bool.or_eq_true, Bool.and_eq_true, decide_eq_true_eq] using h1
  have p0 : v ∈ aftA r.w r.low (mx v (r.low - 1)) cap := by
    rcases hv with z | z
    · have := o.w.b v z
      have e : mx v (r.low - 1) = r.low - 1 := by unfold mx; split <;> omega
      rw [e]
      unfold aftA
      rw [if_pos (by omega)]
      exact z
    · have e : mx v (r.low - 1) = v := by unfold mx; split <;> omega
      rw [e]
      unfold aftA
      rw [if_neg (by omega)]
      exact aftR_new o.w o.pw z.1
  have plt : mx v (r.low - 1) < r.high := by
    have le : mx v (r.low - 1) ≤ r.high := by
      rcases hv with z | z
      · have := o.w.b v z
        unfold mx; split <;> omega
      · unfold mx; split <;> omega
    by_cases e : mx v (r.low - 1) = r.high
    · rw [e] at p0; exact absurd p0 h2
    · omega
  obtain ⟨e1, e2, e3, e4, e5⟩ := bisF_at (r := r) (cap := cap) (v := v) (r.high - mx v (r.low - 1)).toNat (mx v (r.low - 1)) r.high plt (Nat.le_refl _) p0 h2
  have ed : dropA r cap v = (r.mark, (bisR r cap v).2, (aftA r.w r.low (bisR r cap v).1 cap).filter fun o => !decide (o = v)) := rfl
  have eb : bisR r cap v = bisF r cap v (r.high - mx v (r.low - 1)).toNat (mx v (r.low - 1)) r.high := rfl
  rw [← eb] at e1 e2 e3 e4 e5
  rw [ed]
  generalize (bisR r cap v).1 = p at *
  generalize (bisR r cap v).2 = a at *
  subst e1
  -- the arrival p + 1
  have hp : r.low ≤ p + 1 := by
    refine Classical.byContradiction fun z => ?_
    unfold aftA at e2 e3
    rw [if_pos (by omega)] at e2 e3
    exact e3 e2
  have kpw := aftA_pw (hi := p) o.w o.pw
  have kc := aftA_cand (t := p) o.w o.pw
  have kl := aftA_len (v := p) o.w
  have kb : ∀ u ∈ aftA r.w r.low p cap, 0 ≤ u ∧ u ≤ p ∧ r.mark < u := fun u hu => by
    rcases kc u hu with z | z
    · have := o.w.b u z
      have := wm u z
      omega
    · omega
  have es : aftA r.w r.low (p + 1) cap = aftR (aftA r.w r.low p cap) (p + 1) (p + 1) cap := by
    unfold aftA
    rw [if_neg (by omega)]
    by_cases z : p < r.low
    · rw [if_pos z]
      have : r.low = p + 1 := by omega
      rw [this]
    · rw [if_neg z]
      exact aft_step o.w o.pw (by omega)
  rw [es] at e3
  have wk : WOk (aftA r.w r.low p cap) (p + 1) cap := ⟨o.w.c2, o.w.c9, kl, by omega, fun u hu => by have := kb u hu; omega⟩
  have full : ¬ ((aftA r.w r.low p cap).length : Int) + (p + 1) - (p + 1) + 1 ≤ cap := fun z => by
    rw [aftR_small z] at e3
    exact e3 (List.mem_append_left _ e2)
  obtain ⟨ks, ek, kd⟩ := aftR_great wk kpw (Int.le_refl _) full
  rw [ek] at e3
  generalize aftA r.w r.low p cap = K at *
  have nv : v ∉ ks := fun z => e3 (List.mem_append_left _ z)
  have sub : ∀ u ∈ ks, u ∈ K := fun u hu => by
    rcases kd.sub u hu with z | z
    · exact z
    · omega
  have hf : K.filter (fun o => !decide (o = v)) = ks := by
    refine mem_eq (kpw.sublist List.filter_sublist) kd.pw fun u => ⟨fun hu => ?_, fun hu => ?_⟩
    · obtain ⟨u1, u2⟩ := List.mem_filter.mp hu
      have uv : u ≠ v := by simpa using u2
      refine Classical.byContradiction fun nu => ?_
      have nd : (u :: v :: ks).Nodup := by
        simp only [List.nodup_cons, List.mem_cons]
        exact ⟨fun z => z.elim uv nu, nv, lt_nodup kd.pw⟩
      have := nodup_len nd fun x hx => by
        rcases List.mem_cons.mp hx with rfl | hx
        · exact u1
        · rcases List.mem_cons.mp hx with rfl | hx
          · exact e2
          · exact sub x hx
      simp only [List.length_cons, kd.len] at this
      omega
    · exact List.mem_filter.mpr ⟨sub u hu, by simpa using fun (e : u = v) => nv (e ▸ hu)⟩
  rw [hf]
  have vb := kb v e2
  refine ⟨⟨vb.2.2, by show v < p + 1; omega, kd.len, kd.pw, fun u hu => (kb u (sub u hu)).2.2, fun u hu => by have := kb u (sub u hu); show u < p + 1; omega, fun u hu => kd.out v (.inl e2) nv u hu⟩, e5, fun u hu => ?_⟩
  rcases kc u (sub u hu) with z | z
  · exact .inl z
  · exact .inr ⟨z.1, by omega⟩
/-- many multiples of a power between two numbers -/
theorem cert_wide {cap : Nat} {v : Int} {d : Drop} (c : Cert cap v d) (c2 : 2 ≤ cap) (v0 : 0 ≤ v) (m0 : -1 ≤ d.1) : lowb v * ((d.2.2.length : Nat) : Int) < d.2.1 - d.1 := by
  have vpos : 0 < v := by
    refine Classical.byContradiction fun z => ?_
    have e : v = 0 := by omega
    subst e
    have : 0 < d.2.2.length := by rw [c.len]; omega
    obtain ⟨o, ho⟩ := List.exists_mem_of_length_pos this
    have := c.pr o ho
    have o0 := c.lo o ho
    rcases (prec_iff (by omega) (Int.le_refl 0)).mp this with h | h <;> omega
  obtain ⟨j, ej, m1, _⟩ := lowb_ex (n := v.toNat) (by omega)
  have ev : ((v.toNat : Nat) : Int) = v := Int.toNat_of_nonneg v0
  rw [ev] at ej m1
  have s0 : (0 : Int) < 2 ^ j := Int.pow_pos (by decide)
  -- all are multiples
  have mul : ∀ o ∈ v :: d.2.2, o % 2 ^ j = 0 ∧ d.1 < o ∧ o < d.2.1 := fun o ho => by
    rcases List.mem_cons.mp ho with rfl | ho
    · exact ⟨m1, c.a, c.b⟩
    · have o0 : 0 ≤ o := by have := c.lo o ho; omega
      refine ⟨?_, c.lo o ho, c.hi o ho⟩
      rcases (prec_iff o0 v0).mp (c.pr o ho) with h | h
      · rw [h.1]; exact Int.zero_emod _
      · have g : lowb v ≤ lowb o := by omega
        rw [← ej]
        exact (lowb_ge h.1 vpos).mp g
  have nv : v ∉ d.2.2 := fun z => by
    have := c.pr v z
    rw [prec_irr v0] at this
    cases this
  have nd : (v :: d.2.2).Nodup := List.nodup_cons.mpr ⟨nv, lt_nodup c.pw⟩
  -- distinct quotients between d.1 / s and d.2.1 / s
  have quo : ∀ o ∈ v :: d.2.2, o = o / 2 ^ j * 2 ^ j := fun o ho => (Int.ediv_mul_cancel (Int.dvd_of_emod_eq_zero (mul o ho).1)).symm
  have nd2 : ((v :: d.2.2).map fun o => o / 2 ^ j).Nodup := by
    refine List.pairwise_map.mpr (List.Pairwise.imp_of_mem (fun {a b} ha hb (hab : a ≠ b) e => hab ?_) nd)
    rw [quo a ha, quo b hb, e]
  have within : ∀ x ∈ (v :: d.2.2).map (fun o => o / 2 ^ j), x ∈ rgI ((d.1 + 1 + (2 ^ j - 1)) / 2 ^ j) ((d.2.1 - 1) / 2 ^ j) := fun x hx => by
    obtain ⟨o, ho, rfl⟩ := List.mem_map.mp hx
    obtain ⟨_, a, b⟩ := mul o ho
    rw [rgI_mem]
    refine ⟨?_, ?_⟩
    · have : (d.1 + 1 + (2 ^ j - 1)) / 2 ^ j < o / 2 ^ j + 1 := Int.ediv_lt_of_lt_mul s0 (by
        rw [Int.add_mul, ← quo o ho]
        omega)
      omega
    · exact Int.ediv_le_ediv s0 (by omega)
  have len := nodup_len nd2 within
  rw [List.length_map, List.length_cons, rgI_len] at len
  have L0 : 0 < ((d.2.1 - 1) / 2 ^ j - (d.1 + 1 + (2 ^ j - 1)) / 2 ^ j + 1).toNat := by omega
  have q1 : (d.2.1 - 1) / 2 ^ j * 2 ^ j ≤ d.2.1 - 1 := Int.ediv_mul_le _ (by omega)
  have q2 : d.1 + 1 ≤ (d.1 + 1 + (2 ^ j - 1)) / 2 ^ j * 2 ^ j := by
    have := Int.lt_ediv_add_one_mul_self (d.1 + 1 + (2 ^ j - 1)) s0
    rw [Int.add_mul] at this
    omega
  generalize (d.2.1 - 1) / 2 ^ j = A at *
  generalize (d.1 + 1 + (2 ^ j - 1)) / 2 ^ j = B at *
  have hAB : ((d.2.2.length : Nat) : Int) ≤ A - B := by omega
  have mm := Int.mul_le_mul_of_nonneg_left hAB (Int.le_of_lt s0)
  rw [ej]
  have e2 : 2 ^ j * (A - B) = A * 2 ^ j - B * 2 ^ j := by rw [Int.mul_sub, Int.mul_comm _ A, Int.mul_comm _ B]
  omega
/-! ## what became of a version -/
/-- the mark at which it arrived -/
def markAt (v : Int) : Int → List Call → Option Int
  | _, [] => none
  | _, (x, none) :: r => markAt v x r
  | m, (l, some h) :: r => if l ≤ v ∧ v ≤ h then some m else markAt v m r
theorem markAt_app (v : Int) (size : Nat) : ∀ (cs ds : List Call) (m : Int) (w : List Int), markAt v m (cs ++ ds) = (markAt v m cs).orElse fun _ => markAt v (endS size m w cs).1 ds
  | [], ds, m, w => rfl
  | (x, none) :: r, ds, m, w => markAt_app v size r ds x _
  | (l, some h) :: r, ds, m, w => by
    show (if _ then _ else markAt v m (r ++ ds)) = Option.orElse (if _ then _ else markAt v m r) _
    split
    · rfl
    · exact markAt_app v size r ds m _
theorem markAt_arr (v : Int) : ∀ (cs : List Call) (m : Int), (cs.any fun c => match c with
  | (l, some h) => decide (l ≤ v) && decide (v ≤ h)
  | (_, none) => false) = (markAt v m cs).isSome
  | [], m => rfl
  | (x, none) :: r, m => by
    rw [List.any_cons, markAt_arr v r x]
    rfl
  | (l, some h) :: r, m => by
    rw [List.any_cons, markAt_arr v r m]
    show ((decide (l ≤ v) && decide (v ≤ h)) || _) = (if l ≤ v ∧ v ≤ h then some m else markAt v m r).isSome
    by_cases c : l ≤ v ∧ v ≤ h
    · rw [if_pos c, decide_eq_true c.1, decide_eq_true c.2]; rfl
    · rw [if_neg c]
      have : (decide (l ≤ v) && decide (v ≤ h)) = false := by
        rw [Bool.and_eq_false_iff, decide_eq_false_iff_not, decide_eq_false_iff_not]
        omega
      rw [this, Bool.false_or]
def Qst.at_ (q : Qst) (v : Int) : Option Int := markAt v (q.first - 1) q.calls
theorem arrived_at (q : Qst) (v : Int) : q.arrived v = (q.at_ v).isSome := markAt_arr v _ _
theorem Sim.at_arrive {q : Qst} (s : Sim q) (lo hi v : Int) : (q.arrive lo hi).at_ v = (q.at_ v).orElse fun _ => if lo ≤ v ∧ v ≤ hi then some q.mark else none := by
  show markAt v (q.first - 1) (q.calls ++ [(lo, some hi)]) = _
  rw [markAt_app v q.size q.calls _ _ [], s.e]
  rfl
theorem Sim.at_advance {q : Qst} (s : Sim q) (x v : Int) : (q.advance x).at_ v = q.at_ v := by
  show markAt v (q.first - 1) (q.calls ++ [(x, none)]) = _
  rw [markAt_app v q.size q.calls _ _ [], s.e]
  cases h : q.at_ v with
  | none => have h : markAt v (q.first - 1) q.calls = none := h; rw [h]; rfl
  | some m => have h : markAt v (q.first - 1) q.calls = some m := h; rw [h]; rfl
inductive Became (q : Qst) (v : Int) : Prop where
  | not_ (h : q.at_ v = none) (k : v ∉ q.kept) (d : lawDue q.size v q.arrs = none)
  | low (m : Int) (h : q.at_ v = some m) (le : v ≤ m) (k : v ∉ q.kept) (d : lawDue q.size v q.arrs = none)
  | waits (m : Int) (h : q.at_ v = some m) (lt : m < v) (k : v ∈ q.kept) (d : lawDue q.size v q.arrs = none) (p : q.mark < v)
  | drop (m : Int) (h : q.at_ v = some m) (lt : m < v) (k : v ∉ q.kept) (e : Drop) (d : lawDue q.size v q.arrs = some e)
  | passed (m : Int) (h : q.at_ v = some m) (lt : m < v) (k : v ∉ q.kept) (d : lawDue q.size v q.arrs = none) (p : v ≤ q.mark)
theorem callsOk_at : ∀ (cs : List Call) (b v m : Int), callsOk b cs → (markAt v m cs).isSome = true → v ≤ endB b cs
  | [], b, v, m, _, h => by cases h
  | (x, none) :: r, b, v, m, k, h => callsOk_at r b v x k.2.2 h
  | (l, some hh) :: r, b, v, m, k, h => by
    have mono : ∀ (cs : List Call) (b : Int), callsOk b cs → b ≤ endB b cs := fun cs => by
      induction cs with
      | nil => intro b _; exact Int.le_refl _
      | cons c cs ih =>
        intro b k
        obtain ⟨l, h⟩ := c
        cases h with
        | none => exact ih b k.2.2
        | some h => have := ih h k.2.2.2; have := k.1; have := k.2.1; show b ≤ endB h cs; omega
    show v ≤ endB hh r
    have h : (if l ≤ v ∧ v ≤ hh then some m else markAt v m r).isSome = true := h
    by_cases c : l ≤ v ∧ v ≤ hh
    · have := mono r hh k.2.2.2; omega
    · rw [if_neg c] at h
      exact callsOk_at r hh v m k.2.2.2 h
structure Hist (q : Qst) : Prop where
  ok : QOk q
  s : Sim q
  pw : q.kept.Pairwise (· < ·)
  km : ∀ v ∈ q.kept, q.mark < v
  st : ∀ v, Became q v
  ka : ∀ v ∈ q.kept, (q.at_ v).isSome = true
  ar : ∀ r ∈ q.arrs, ArOk q.size r ∧ (∀ o ∈ r.w, r.mark < o ∧ (q.at_ o).isSome = true) ∧ (∀ o, r.low ≤ o → o ≤ r.high → (q.at_ o).isSome = true) ∧ r.high ≤ q.bound ∧ r.mark < r.low
theorem Hist.new {cap : Nat} {s : Int} (c2 : 2 ≤ cap) (c9 : cap ≤ 9) (s0 : 0 ≤ s) (s1 : Big s) : Hist (Qst.new cap s) := ⟨QOk.new c2 c9 s0 s1, Sim.new _ _, .nil, (fun v hv => nomatch hv), fun v => .not_ rfl (fun h => nomatch h) rfl, (fun v hv => nomatch hv), fun r hr => nomatch hr⟩
theorem Hist.late {q : Qst} (h : Hist q) {v : Int} (hv : q.bound < v) : q.at_ v = none := by
  cases e : q.at_ v with
  | none => rfl
  | some m =>
    have := callsOk_at q.calls (q.first - 1) v (q.first - 1) h.ok.cs (by show (q.at_ v).isSome = true; rw [e]; rfl)
    rw [h.ok.ce] at this
    omega
theorem Hist.arrive {q : Qst} (h : Hist q) {lo hi : Int} (hlo : q.bound < lo) (hl : lo ≤ hi) (hb : Big hi) (hc : q.calls.length < 100000) : Hist (q.arrive lo hi) := by
  have w := h.ok.wok hlo
  have ek : (q.arrive lo hi).kept = aftA q.kept (mx lo (q.mark + 1)) hi q.size := rfl
  have ez : (q.arrive lo hi).size = q.size := rfl
  have em : (q.arrive lo hi).mark = q.mark := rfl
  have hm := mx_le lo (q.mark + 1)
  have ea := fun v => h.s.at_arrive lo hi v
  have keep : ∀ v, (q.at_ v).isSome = true → ((q.arrive lo hi).at_ v).isSome = true := fun v hv => by
    rw [ea v]
    cases e : q.at_ v with
    | none => rw [e] at hv; cases hv
    | some m => rfl
  have here : ∀ v, lo ≤ v → v ≤ hi → ((q.arrive lo hi).at_ v).isSome = true := fun v h1 h2 => by
    rw [ea v, if_pos ⟨h1, h2⟩]
    cases q.at_ v <;> rfl
  have cand := aftA_cand (t := hi) w h.pw
  have gone : ∀ v, v ∉ q.kept → ¬ (mx lo (q.mark + 1) ≤ v ∧ v ≤ hi) → v ∉ (q.arrive lo hi).kept := fun v h1 h2 h3 => by
    rw [ek] at h3
    exact (cand v h3).elim h1 h2
  have earr := h.s.arrs_arrive lo hi
  have due : ∀ v, lawDue q.size v (q.arrive lo hi).arrs = (lawDue q.size v q.arrs).orElse fun _ => lawDue q.size v (if mx lo (q.mark + 1) ≤ hi then [⟨q.mark, q.kept, mx lo (q.mark + 1), hi⟩] else []) := fun v => by rw [earr, lawDue_app]
  have one : ∀ v, lawDue q.size v (if mx lo (q.mark + 1) ≤ hi then [(⟨q.mark, q.kept, mx lo (q.mark + 1), hi⟩ : Arr)] else []) = if mx lo (q.mark + 1) ≤ hi ∧ (v ∈ q.kept ∨ (mx lo (q.mark + 1) ≤ v ∧ v ≤ hi)) ∧ v ∉ (q.arrive lo hi).kept then some (dropA ⟨q.mark, q.kept, mx lo (q.mark + 1), hi⟩ q.size v) else none := fun v => by
    by_cases c1 : mx lo (q.mark + 1) ≤ hi
    · rw [if_pos c1]
      show (if (holdsA ⟨q.mark, q.kept, mx lo (q.mark + 1), hi⟩ v && !decide (v ∈ aftA q.kept (mx lo (q.mark + 1)) hi q.size)) = true then some _ else none) = _
      have e : (holdsA ⟨q.mark, q.kept, mx lo (q.mark + 1), hi⟩ v && !decide (v ∈ aftA q.kept (mx lo (q.mark + 1)) hi q.size)) = true ↔ mx lo (q.mark + 1) ≤ hi ∧ (v ∈ q.kept ∨ (mx lo (q.mark + 1) ≤ v ∧ v ≤ hi)) ∧ v ∉ (q.arrive lo hi).kept := by
        unfold holdsA
        simp only [Bool.and_eq_true, Bool.or_eq_true, decide_eq_true_eq, Bool.not_eq_true', decide_eq_false_iff_not]
        exact ⟨fun z => ⟨c1, z.1, z.2⟩, fun z => ⟨z.2.1, z.2.2⟩⟩
      by_cases c2 : (holdsA ⟨q.mark, q.kept, mx lo (q.mark + 1), hi⟩ v && !decide (v ∈ aftA q.kept (mx lo (q.mark + 1)) hi q.size)) = true
      · rw [if_pos c2, if_pos (e.mp c2)]
      · rw [if_neg c2, if_neg fun z => c2 (e.mpr z)]
    · rw [if_neg c1, if_neg fun z => c1 z.1]
      rfl
  refine ⟨h.ok.arrive hlo hl hb hc, h.s.arrive lo hi, by rw [ek]; exact aftA_pw w h.pw, fun v hv => ?_, fun v => ?_, fun v hv => ?_, fun r hr => ?_⟩
  · rw [ek] at hv
    rcases cand v hv with z | z
    · exact h.km v z
    · show q.mark < v; omega
  · -- what became of it
    by_cases c : lo ≤ v ∧ v ≤ hi
    · have a0 := h.late (v := v) (by omega)
      have a1 : (q.arrive lo hi).at_ v = some q.mark := by rw [ea v, a0, if_pos c]; rfl
      have k0 : v ∉ q.kept := fun z => by have := h.ka v z; rw [a0] at this; cases this
      have d0 : lawDue q.size v q.arrs = none := by
        cases h.st v with
        | not_ _ _ d => exact d
        | low _ e => rw [a0] at e; cases e
        | waits _ e => rw [a0] at e; cases e
        | drop _ e => rw [a0] at e; cases e
        | passed _ e => rw [a0] at e; cases e
      have d1 : lawDue q.size v (q.arrive lo hi).arrs = if mx lo (q.mark + 1) ≤ hi ∧ (v ∈ q.kept ∨ (mx lo (q.mark + 1) ≤ v ∧ v ≤ hi)) ∧ v ∉ (q.arrive lo hi).kept then some (dropA ⟨q.mark, q.kept, mx lo (q.mark + 1), hi⟩ q.size v) else none := by
        rw [due v, d0, ← one v]; rfl
      by_cases le : v ≤ q.mark
      · exact .low q.mark a1 le (gone v k0 (by omega)) (by rw [ez, d1, if_neg]; rintro ⟨_, z | z, _⟩; exact k0 z; omega)
      · have hx : mx lo (q.mark + 1) ≤ v := by unfold mx; split <;> omega
        by_cases k1 : v ∈ (q.arrive lo hi).kept
        · exact .waits q.mark a1 (by omega) k1 (by rw [ez, d1, if_neg fun z => z.2.2 k1]) (by show q.mark < v; omega)
        · exact .drop q.mark a1 (by omega) k1 _ (by rw [ez, d1, if_pos ⟨by omega, .inr ⟨hx, c.2⟩, k1⟩])
    · have a1 : (q.arrive lo hi).at_ v = q.at_ v := by
        rw [ea v, if_neg c]
        cases q.at_ v <;> rfl
      have nr : ¬ (mx lo (q.mark + 1) ≤ v ∧ v ≤ hi) := by omega
      have still : lawDue q.size v q.arrs = none → v ∉ q.kept → lawDue q.size v (q.arrive lo hi).arrs = none := fun d0 k0 => by
        rw [due v, d0]
        show lawDue q.size v _ = none
        rw [one v, if_neg]
        rintro ⟨_, z | z, _⟩
        · exact k0 z
        · exact nr z
      cases h.st v with
      | not_ e k d => exact .not_ (by rw [a1]; exact e) (gone v k nr) (still d k)
      | low m e le k d => exact .low m (by rw [a1]; exact e) le (gone v k nr) (still d k)
      | waits m e lt k d p =>
        by_cases k1 : v ∈ (q.arrive lo hi).kept
        · refine .waits m (by rw [a1]; exact e) lt k1 ?_ p
          rw [ez, due v, d]
          show lawDue q.size v _ = none
          rw [one v, if_neg fun z => z.2.2 k1]
        · have c1 : mx lo (q.mark + 1) ≤ hi := by
            refine Classical.byContradiction fun z => k1 ?_
            rw [ek]
            unfold aftA
            rw [if_pos (by omega)]
            exact k
          refine .drop m (by rw [a1]; exact e) lt k1 (dropA ⟨q.mark, q.kept, mx lo (q.mark + 1), hi⟩ q.size v) ?_
          rw [ez, due v, d]
          show lawDue q.size v _ = some _
          rw [one v, if_pos ⟨c1, .inl k, k1⟩]
      | drop m e lt k dd d =>
        refine .drop m (by rw [a1]; exact e) lt (gone v k nr) dd ?_
        rw [ez, due v, d]
        rfl
      | passed m e lt k d p => exact .passed m (by rw [a1]; exact e) lt (gone v k nr) (still d k) p
  · rw [ek] at hv
    rcases cand v hv with z | z
    · exact keep v (h.ka v z)
    · exact here v (by omega) z.2
  · rw [earr] at hr
    rcases List.mem_append.mp hr with z | z
    · obtain ⟨a, b, c, d, e⟩ := h.ar r z
      exact ⟨a, fun o ho => ⟨(b o ho).1, keep o (b o ho).2⟩, fun o h1 h2 => keep o (c o h1 h2), by show r.high ≤ hi; omega, e⟩
    · by_cases c1 : mx lo (q.mark + 1) ≤ hi
      · rw [if_pos c1] at z
        obtain rfl := List.mem_singleton.mp z
        exact ⟨⟨w, h.pw, hb, c1, h.ok.m0, h.ok.m1⟩, fun o ho => ⟨h.km o ho, keep o (h.ka o ho)⟩, fun o h1 h2 => here o (by show lo ≤ o; have : mx lo (q.mark + 1) ≤ o := h1; omega) h2, Int.le_refl _, by show q.mark < mx lo (q.mark + 1); omega⟩
      · rw [if_neg c1] at z
        cases z
theorem Hist.advance {q : Qst} (h : Hist q) {x : Int} (hx : q.mark < x) (hb : Big x) (hc : q.calls.length < 100000) : Hist (q.advance x) := by
  have m0 := h.ok.m0
  have ea := fun v => h.s.at_advance x v
  have er := h.s.arrs_advance x
  have ek : (q.advance x).kept = q.kept.filter fun o => decide (o > x) := rfl
  have ez : (q.advance x).size = q.size := rfl
  have out : ∀ v, v ∉ q.kept → v ∉ (q.advance x).kept := fun v h1 h2 => h1 (List.mem_filter.mp h2).1
  refine ⟨h.ok.advance (by omega) hb hc, h.s.advance x, h.pw.sublist List.filter_sublist, fun v hv => of_decide_eq_true (List.mem_filter.mp hv).2, fun v => ?_, fun v hv => ?_, fun r hr => ?_⟩
  · cases h.st v with
    | not_ e k d => exact .not_ (by rw [ea]; exact e) (out v k) (by rw [ez, er]; exact d)
    | low m e le k d => exact .low m (by rw [ea]; exact e) le (out v k) (by rw [ez, er]; exact d)
    | waits m e lt k d p =>
      by_cases c : v > x
      · exact .waits m (by rw [ea]; exact e) lt (List.mem_filter.mpr ⟨k, decide_eq_true c⟩) (by rw [ez, er]; exact d) c
      · exact .passed m (by rw [ea]; exact e) lt (fun z => c (of_decide_eq_true (List.mem_filter.mp z).2)) (by rw [ez, er]; exact d) (by show v ≤ x; omega)
    | drop m e lt k dd d => exact .drop m (by rw [ea]; exact e) lt (out v k) dd (by rw [ez, er]; exact d)
    | passed m e lt k d p => exact .passed m (by rw [ea]; exact e) lt (out v k) (by rw [ez, er]; exact d) (by show v ≤ x; omega)
  · rw [ea]
    exact h.ka v (List.mem_filter.mp hv).1
  · rw [er] at hr
    obtain ⟨a, b, c, d, e⟩ := h.ar r hr
    exact ⟨a, fun o ho => ⟨(b o ho).1, by rw [ea]; exact (b o ho).2⟩, fun o h1 h2 => by rw [ea]; exact c o h1 h2, d, e⟩
/-- the drop of a version: its certificate -/
theorem Hist.cert {q : Qst} (h : Hist q) {v : Int} {d : Drop} (e : q.dropOf v = some d) : Cert q.size v d ∧ d.2.1 ≤ q.bound ∧ -1 ≤ d.1 ∧ (∀ o ∈ d.2.2, (q.at_ o).isSome = true) ∧ ∃ r, ArOk q.size r ∧ d = dropA r q.size v := by
  rw [q.dropOf_due] at e
  obtain ⟨r, hr, rfl, h1, h2⟩ := lawDue_some e
  obtain ⟨a, b, c, hb, ml⟩ := h.ar r hr
  obtain ⟨ce, le, sub⟩ := drop_cert a (fun u hu => (b u hu).1) ml h1 h2
  refine ⟨ce, Int.le_trans le hb, a.m0, fun o ho => ?_, r, a, rfl⟩
  rcases sub o ho with z | z
  · exact (b o z).2
  · exact c o z.1 z.2
/-- what was dropped stays dropped alike -/
theorem Sim.drop_arrive {q : Qst} (s : Sim q) {v : Int} {d : Drop} (e : q.dropOf v = some d) (lo hi : Int) : (q.arrive lo hi).dropOf v = some d := by
  rw [Qst.dropOf_due] at e ⊢
  show lawDue q.size v (q.arrive lo hi).arrs = some d
  rw [s.arrs_arrive, lawDue_app, e]
  rfl
theorem Sim.drop_advance {q : Qst} (s : Sim q) {v : Int} {d : Drop} (e : q.dropOf v = some d) (x : Int) : (q.advance x).dropOf v = some d := by
  rw [Qst.dropOf_due] at e ⊢
  show lawDue q.size v (q.advance x).arrs = some d
  rw [s.arrs_advance]
  exact e
/-! ## min(xs, key=f), max(xs, key=f), f an own def -/
/-- the first of the least -/
def bestK (lt : PyData → PyData → Bool) (k : V → PyData) (x : V) (r : List V) : V := r.foldl (fun a y => if lt (k y) (k a) = true then y else a) x
theorem bestK_mem (lt : PyData → PyData → Bool) (k : V → PyData) : ∀ (r : List V) (x : V), bestK lt k x r ∈ x :: r
  | [], x => List.mem_cons_self ..
  | y :: r, x => by
    have h := bestK_mem lt k r (if lt (k y) (k x) = true then y else x)
    show bestK lt k (if lt (k y) (k x) = true then y else x) r ∈ _
    rcases List.mem_cons.mp h with h | h
    · rw [h]
      split
      · exact List.mem_cons_of_mem _ (List.mem_cons_self ..)
      · exact List.mem_cons_self ..
    · exact List.mem_cons_of_mem _ (List.mem_cons_of_mem _ h)
theorem bestK_take (lt : PyData → PyData → Bool) (k : V → PyData) (x y : V) (r : List V) (j : Nat) (h : r[j]? = some y) : bestK lt k x (r.take (j + 1)) = if lt (k y) (k (bestK lt k x (r.take j))) = true then y else bestK lt k x (r.take j) := by
  unfold bestK
  rw [List.take_add_one, h]
  show List.foldl _ _ (r.take j ++ [y]) = _
  rw [List.foldl_append]
  rfl
section
open PySem.W (dataLt alike rcLt_alike rcGt_alike)
variable {X : Cx} {pins : List (Addr × Obj)} {σ : St} {H0 H H1 : Hp} {s0 s : Shared} {A : Around} {q : Addr} {xs : List V} {l S I : Addr} {k : V → PyData} {R : Result → Shared → Prop}
theorem min_loopI {x0 : V} {rest : List V} (I0 : Inv X pins σ H0 s0) (hS0 : s0.heap.objs.size ≤ S) (hI0 : s0.heap.objs.size ≤ I) (hne : S ≠ I) (hlI : l ≠ I) (hlS : l ≠ S) (hs : SqL X.K H0 l (x0 :: rest)) (al : ∀ u ∈ x0 :: rest, ∀ v ∈ x0 :: rest, alike (k u) (k v) = true) (nn : ∀ v ∈ x0 :: rest, k v ≠ .none) (hu : ∀ v ∈ x0 :: rest, A.in1.units + (k v).depth < cLine) (hh : A.in1.handled = none)
    (turn : ∀ v u, v ∈ x0 :: rest → RelV v u → ∀ pins' s' H', Inv X pins' σ H' s' → Ex H0 H' → wpAny (model X.prog X.w) A.in1 (call (.ref q) [u]) (fun r s'' => ∃ y H'', Inv X pins' σ H'' s'' ∧ Ex H' H'' ∧ RelV y r ∧ Dp X.K H'' y (k v)) (fun _ _ => False) s')
    (hR : ∀ u H s, RelV (bestK dataLt k x0 rest) u → Inv X pins σ H s → Ex H0 H → R (.ok (.ret u)) s) (kw : List (Str × Value)) :
    ∀ (r j : Nat) (s : Shared) (H : Hp) (vb kb : Value) (c : Nat), rest.length - j = r → j ≤ rest.length → Inv X pins σ H s → Ex H0 H → H S = none → H I = none → s.heap.IsListIter I l (j + 1) → s.heap.get? S = some (seqObj "list" #[vb, kb] c) →
      RelV (bestK dataLt k x0 (rest.take j)) vb → (∃ y, RelV y kb ∧ Dp X.K H y (k (bestK dataLt k x0 (rest.take j)))) → codeAny (model X.prog X.w) A (.builtin "min.loop" ⟨[.ref I, .ref q, .ref S], kw⟩) R s := by
  have hname : (toString "min" ++ toString ".loop" : String) = "min.loop" := by decide
  have fS : ∀ {H' : Hp}, H' S = none → FpOk X pins H' S := fun hn => I0.fpOk hS0 hn
  have fI : ∀ {H' : Hp}, H' I = none → FpOk X pins H' I := fun hn => I0.fpOk hI0 hn
  intro r
  induction r with
  | zero =>
    intro j s H vb kb c hr hj Iv x nS nI hit gS rb hkb
    have ej : j = rest.length := by omega
    subst ej
    rw [List.take_length] at rb
    obtain ⟨its, rv, pl, hz⟩ := Iv.list (x.sqL hs)
    have W := Walks.list (prog := X.prog) (w := X.w) (A := A.in1) hh I l hlI its.toArray
    have hsz : its.toArray.size = rest.length + 1 := by rw [List.size_toArray, ← rv.length]; rfl
    refine codeAny_builtin PySem.F.entry_min_loop ?_
    rw [Around.under_plainId PySem.F.plain_min_loop _]
    show wpAny _ A.in1 (seqItems? (.ref S) >>= _) _ _ _
    refine wpAny_bind (wpAny_seqItems gS rfl ?_)
    show wpAny _ A.in1 (tryCatch (pyNext (.ref I)) _ >>= _) _ _ _
    refine wpAny_bind (wpAny_tryCatch (W.done _ _ _ ⟨by rw [hsz]; exact hit, pl.isList⟩ fun h' tk' hk' => ?_))
    have gS' := hk' S _ (by simpa using hne) gS
    obtain ⟨f0, f1, f2, f3, f4, f5⟩ := fI nI
    have I2 := Iv.turned (t' := tk') (h' := h') (fun b o hb e => hk' b o (by simpa using hb) e) f0 f1 f3 f4 f5
    have s1 := Heap.SameBut.update h' S (Obj.mapSeq fun _ => (#[] : Array Value))
    show wpAny _ A.in1 (updateSeq S (fun _ => #[]) >>= _) _ _ _
    refine wpAny_bind ?_
    refine wpAny_updateSeq gS' rfl (wpAny_bind (wpAny_letGo (wpAny_pure ?_)))
    obtain ⟨f0, f1, f2, f3, f4, f5⟩ := fS nS
    exact hR vb H _ rb (I2.turned (fun b o hb e => (s1.2 b hb).trans e) f0 f1 f3 f4 f5) x
  | succ r ih =>
    intro j s H vb kb c hr hj Iv x nS nI hit gS rb hkb
    have hlt : j < rest.length := by omega
    obtain ⟨its, rv, pl, hz⟩ := Iv.list (x.sqL hs)
    have W := Walks.list (prog := X.prog) (w := X.w) (A := A.in1) hh I l hlI its.toArray
    have hsz : its.toArray.size = rest.length + 1 := by rw [List.size_toArray, ← rv.length]; rfl
    refine codeAny_builtin PySem.F.entry_min_loop ?_
    rw [Around.under_plainId PySem.F.plain_min_loop _]
    show wpAny _ A.in1 (seqItems? (.ref S) >>= _) _ _ _
    refine wpAny_bind (wpAny_seqItems gS rfl ?_)
    show wpAny _ A.in1 (tryCatch (pyNext (.ref I)) _ >>= _) _ _ _
    refine wpAny_bind (wpAny_tryCatch (W.item (j + 1) _ _ _ (by rw [hsz]; omega) ⟨hit, pl.isList⟩ fun v h' tk' hP hst' hk' => ?_))
    have gS' := hk' S _ (by simpa using hne) gS
    obtain ⟨f0, f1, f2, f3, f4, f5⟩ := fI nI
    have I2 := Iv.turned (t' := tk') (h' := h') (fun b o hb e => hk' b o (by simpa using hb) e) f0 f1 f3 f4 f5
    have hv : its[j + 1]? = some v := by simpa using hP
    obtain ⟨y, hy, ry⟩ : ∃ y, rest[j]? = some y ∧ RelV y v := by
      have e1 : rest[j]? = some rest[j] := List.getElem?_eq_getElem hlt
      have e2 : (x0 :: rest)[j + 1]? = some rest[j] := e1
      obtain ⟨u, hu', ru⟩ := rv.get e2
      rw [hv] at hu'
      cases hu'
      exact ⟨_, e1, ru⟩
    have my : y ∈ x0 :: rest := List.mem_cons_of_mem _ (List.mem_of_getElem? hy)
    obtain ⟨oI, goI, oI1, oI2⟩ := id hst'.1
    have Ip := I2.pinned (fp := [S, I]) (fun b hb => by
      simp at hb
      rcases hb with rfl | rfl
      · exact fS nS
      · exact fI nI) (fun b hb => by
      simp at hb
      rcases hb with rfl | rfl
      · exact ⟨_, gS', fun _ => by intro z; cases z⟩
      · exact ⟨_, goI, fun _ => by rw [oI2]; intro z; cases z⟩)
    show wpAny _ A.in1 (tryCatch (holding [v] (call (.ref q) [v])) _ >>= _) _ _ _
    refine wpAny_bind (wpAny_tryCatch (wpAny_holding (wpAny_mono (turn y v my ry _ _ H Ip x) (fun kx s'' he => ?_) fun _ _ hF => hF.elim)))
    obtain ⟨ky, H'', I3, x3, rk, hd⟩ := he
    have pS := I3.pin (S, seqObj "list" #[vb, kb] c) (List.mem_append_right _ (List.mem_append_right _ (mem_pinsAt (by simp) gS')))
    have pI := I3.pin (I, oI) (List.mem_append_right _ (List.mem_append_right _ (mem_pinsAt (by simp) goI)))
    have gS2 : s''.heap.get? S = some (seqObj "list" #[vb, kb] c) := pS.1
    have gI2 : s''.heap.get? I = some oI := pI.1
    have nS2 : H'' S = none := pS.2.1
    have nI2 : H'' I = none := pI.2.1
    have I4 := I3.unpinned
    obtain ⟨yb, ryb, hdb⟩ := hkb
    have hdb2 := Dp.ex x3 hdb
    obtain ⟨as1, r1⟩ := Dp.reads I4 (k y) ky kx hd rk
    obtain ⟨as2, r2⟩ := Dp.reads I4 _ yb kb hdb2 ryb
    have mb := bestK_mem dataLt k (rest.take j) x0
    have mb : bestK dataLt k x0 (rest.take j) ∈ x0 :: rest := by
      rcases List.mem_cons.mp mb with h | h
      · rw [h]; exact List.mem_cons_self ..
      · exact List.mem_cons_of_mem _ (List.mem_of_mem_take h)
    have ebk := bestK_take dataLt k x0 y rest j hy
    show wpAny _ A.in1 (tryCatch (holding [v, kx] (richCompare .Lt kx kb >>= _)) _ >>= _) _ _ _
    refine wpAny_bind (wpAny_tryCatch (wpAny_holding (wpAny_bind (rcLt_alike _ _ A.in1 s'' kx kb _ _ r1 r2 (al _ my _ mb) (nn _ my) (by
      have := Nat.min_le_left (k y).depth (k (bestK dataLt k x0 (rest.take j))).depth
      have := hu y my
      omega) X.prog X.w _ _ ?_))))
    refine wpAny_bind (wpAny_holding (wpAny_truthy_bool ?_))
    refine wpAny_bind (wpAny_letGo (wpAny_pure ?_))
    cases hb : dataLt (k y) (k (bestK dataLt k x0 (rest.take j))) with
    | true =>
      rw [hb, if_pos rfl] at ebk
      simp only [if_true]
      have s1 := Heap.SameBut.update s''.heap S (Obj.mapSeq fun _ => #[v, kx])
      obtain ⟨c2, hc2⟩ : ∃ c2, (s''.heap.update S (Obj.mapSeq fun _ => #[v, kx])).get? S = some (seqObj "list" #[v, kx] c2) := ⟨_, get?_update_seq gS2 fun _ => #[v, kx]⟩
      refine wpAny_bind ?_
      refine wpAny_updateSeq gS2 rfl (wpAny_bind (wpAny_letGo ?_))
      rw [hname]
      obtain ⟨f0, f1, f2, f3, f4, f5⟩ := fS nS2
      refine wpAny_pure ⟨plainId_quiet PySem.F.plain_min_loop _, ih (j + 1) _ H'' v kx c2 (by omega) hlt (I4.turned (t' := s''.toks) (fun b o hb e => (s1.2 b hb).trans e) f0 f1 f3 f4 f5) (x.trans x3) nS2 nI2 ⟨oI, (s1.2 I hne.symm).trans gI2, oI1, oI2⟩ hc2 (by rw [ebk]; exact ry) ⟨ky, rk, by rw [ebk]; exact hd⟩⟩
    | false =>
      rw [hb, if_neg (by decide)] at ebk
      simp only [Bool.false_eq_true, if_false]
      refine wpAny_bind (wpAny_letGo ?_)
      rw [hname]
      exact wpAny_pure ⟨plainId_quiet PySem.F.plain_min_loop _, ih (j + 1) _ H'' vb kb c (by omega) hlt I4 (x.trans x3) nS2 nI2 ⟨oI, gI2, oI1, oI2⟩ gS2 (by rw [ebk]; exact rb) ⟨yb, ryb, by rw [ebk]; exact hdb2⟩⟩
theorem min_firstI {x0 : V} {rest : List V} (I0 : Inv X pins σ H0 s0) (hS0 : s0.heap.objs.size ≤ S) (hI0 : s0.heap.objs.size ≤ I) (hne : S ≠ I) (hlI : l ≠ I) (hlS : l ≠ S) (hs : SqL X.K H0 l (x0 :: rest)) (al : ∀ u ∈ x0 :: rest, ∀ v ∈ x0 :: rest, alike (k u) (k v) = true) (nn : ∀ v ∈ x0 :: rest, k v ≠ .none) (hu : ∀ v ∈ x0 :: rest, A.in1.units + (k v).depth < cLine) (hh : A.in1.handled = none)
    (turn : ∀ v u, v ∈ x0 :: rest → RelV v u → ∀ pins' s' H', Inv X pins' σ H' s' → Ex H0 H' → wpAny (model X.prog X.w) A.in1 (call (.ref q) [u]) (fun r s'' => ∃ y H'', Inv X pins' σ H'' s'' ∧ Ex H' H'' ∧ RelV y r ∧ Dp X.K H'' y (k v)) (fun _ _ => False) s')
    (hR : ∀ u H s, RelV (bestK dataLt k x0 rest) u → Inv X pins σ H s → Ex H0 H → R (.ok (.ret u)) s) (kw : List (Str × Value)) (s : Shared) (H : Hp) (c : Nat) (Iv : Inv X pins σ H s) (x : Ex H0 H) (nS : H S = none) (nI : H I = none) (hit : s.heap.IsListIter I l 0) (gS : s.heap.get? S = some (seqObj "list" #[] c)) :
    codeAny (model X.prog X.w) A (.builtin "min.loop" ⟨[.ref I, .ref q, .ref S], kw⟩) R s := by
  have hname : (toString "min" ++ toString ".loop" : String) = "min.loop" := by decide
  have fS : ∀ {H' : Hp}, H' S = none → FpOk X pins H' S := fun hn => I0.fpOk hS0 hn
  have fI : ∀ {H' : Hp}, H' I = none → FpOk X pins H' I := fun hn => I0.fpOk hI0 hn
  obtain ⟨its, rv, pl, hz⟩ := Iv.list (x.sqL hs)
  have W := Walks.list (prog := X.prog) (w := X.w) (A := A.in1) hh I l hlI its.toArray
  have hsz : its.toArray.size = rest.length + 1 := by rw [List.size_toArray, ← rv.length]; rfl
  refine codeAny_builtin PySem.F.entry_min_loop ?_
  rw [Around.under_plainId PySem.F.plain_min_loop _]
  show wpAny _ A.in1 (seqItems? (.ref S) >>= _) _ _ _
  refine wpAny_bind (wpAny_seqItems gS rfl ?_)
  show wpAny _ A.in1 (tryCatch (pyNext (.ref I)) _ >>= _) _ _ _
  refine wpAny_bind (wpAny_tryCatch (W.item 0 _ _ _ (by rw [hsz]; omega) ⟨hit, pl.isList⟩ fun v h' tk' hP hst' hk' => ?_))
  have gS' := hk' S _ (by simpa using hne) gS
  obtain ⟨f0, f1, f2, f3, f4, f5⟩ := fI nI
  have I2 := Iv.turned (t' := tk') (h' := h') (fun b o hb e => hk' b o (by simpa using hb) e) f0 f1 f3 f4 f5
  have hv : its[0]? = some v := by simpa using hP
  have ry : RelV x0 v := by
    obtain ⟨u, hu', ru⟩ := rv.get (i := 0) (x := x0) rfl
    rw [hv] at hu'
    cases hu'
    exact ru
  have my : x0 ∈ x0 :: rest := List.mem_cons_self ..
  obtain ⟨oI, goI, oI1, oI2⟩ := id hst'.1
  have Ip := I2.pinned (fp := [S, I]) (fun b hb => by
    simp at hb
    rcases hb with rfl | rfl
    · exact fS nS
    · exact fI nI) (fun b hb => by
    simp at hb
    rcases hb with rfl | rfl
    · exact ⟨_, gS', fun _ => by intro z; cases z⟩
    · exact ⟨_, goI, fun _ => by rw [oI2]; intro z; cases z⟩)
  show wpAny _ A.in1 (tryCatch (holding [v] (call (.ref q) [v])) _ >>= _) _ _ _
  refine wpAny_bind (wpAny_tryCatch (wpAny_holding (wpAny_mono (turn x0 v my ry _ _ H Ip x) (fun kx s'' he => ?_) fun _ _ hF => hF.elim)))
  obtain ⟨ky, H'', I3, x3, rk, hd⟩ := he
  have pS := I3.pin (S, seqObj "list" #[] c) (List.mem_append_right _ (List.mem_append_right _ (mem_pinsAt (by simp) gS')))
  have pI := I3.pin (I, oI) (List.mem_append_right _ (List.mem_append_right _ (mem_pinsAt (by simp) goI)))
  have gS2 : s''.heap.get? S = some (seqObj "list" #[] c) := pS.1
  have gI2 : s''.heap.get? I = some oI := pI.1
  have nS2 : H'' S = none := pS.2.1
  have nI2 : H'' I = none := pI.2.1
  have I4 := I3.unpinned
  show wpAny _ A.in1 (updateSeq S (fun _ => #[v, kx]) >>= _) _ _ _
  have s1 := Heap.SameBut.update s''.heap S (Obj.mapSeq fun _ => #[v, kx])
  obtain ⟨c2, hc2⟩ : ∃ c2, (s''.heap.update S (Obj.mapSeq fun _ => #[v, kx])).get? S = some (seqObj "list" #[v, kx] c2) := ⟨_, get?_update_seq gS2 fun _ => #[v, kx]⟩
  refine wpAny_bind ?_
  refine wpAny_updateSeq gS2 rfl ?_
  rw [hname]
  obtain ⟨f0, f1, f2, f3, f4, f5⟩ := fS nS2
  exact wpAny_pure ⟨plainId_quiet PySem.F.plain_min_loop _, min_loopI I0 hS0 hI0 hne hlI hlS hs al nn hu hh turn hR _ _ 0 _ H'' v kx c2 rfl (Nat.zero_le _) (I4.turned (t' := s''.toks) (fun b o hb e => (s1.2 b hb).trans e) f0 f1 f3 f4 f5) (x.trans x3) nS2 nI2 ⟨oI, (s1.2 I hne.symm).trans gI2, oI1, oI2⟩ hc2 ry ⟨ky, rk, hd⟩⟩
/-- min(xs, key=f) at the values -/
theorem minI {x0 : V} {rest : List V} {Q : VK} (Iv : Inv X pins σ H1 s) (x : Ex H H1) (hs : SqL X.K H l (x0 :: rest)) (al : ∀ u ∈ x0 :: rest, ∀ v ∈ x0 :: rest, alike (k u) (k v) = true) (nn : ∀ v ∈ x0 :: rest, k v ≠ .none) (hu : ∀ v ∈ x0 :: rest, X.A.in1.units + (k v).depth < cLine) (hh : X.A.in1.handled = none)
    (turn : ∀ v u, v ∈ x0 :: rest → RelV v u → ∀ pins' s' H', Inv X pins' σ H' s' → Ex H H' → wpAny (model X.prog X.w) X.A.in1 (call (.ref q) [u]) (fun r s'' => ∃ y H'', Inv X pins' σ H'' s'' ∧ Ex H' H'' ∧ RelV y r ∧ Dp X.K H'' y (k v)) (fun _ _ => False) s')
    (qq : ∀ H', Ex H H' → Q (bestK dataLt k x0 rest) H') : wpAny (model X.prog X.w) X.A (call (.builtin "min") [.ref l] [(Str.ofString "key", .ref q)]) (EP X pins σ (up Q)) X.xe s := by
  have hname : (toString "min" ++ toString ".loop" : String) = "min.loop" := by decide
  obtain ⟨its, rv, pl, hz⟩ := Iv.list (x.sqL hs)
  refine PyProof.Rows.kmk_tree PySem.F.kind_min PySem.F.plain_min PySem.F.entry_min (PyProof.Rows.kmk_min_key _ _) ?_
  show wpAny _ X.A.in1 (Builtin.Builtins.bindParams "min" ["key", "default"] 0 ⟨[], [(Str.ofString "key", .ref q)]⟩ >>= _) _ _ s
  refine wpAny_bind (wpAny_of_eq (show Builtin.Builtins.bindParams "min" ["key", "default"] 0 ⟨[], [(Str.ofString "key", .ref q)]⟩ = pure [some (.ref q), none] from rfl) ?_)
  refine wpAny_bind (wpAny_pure ?_)
  refine wpAny_bind (wpAny_pyIter_list pl.isList ?_)
  refine wpAny_bind (wpAny_newList ?_ (Nat.zero_le _))
  rw [hname]
  obtain ⟨ol, gl, _⟩ := pl.isList
  have hll : l < s.heap.objs.size := Heap.lt_size gl
  have sz : (s.heap.push { cls := .type "list_iterator", data := .fields #[.ref l, .int 0 0] }).objs.size = s.heap.objs.size + 1 := Heap.size_push ..
  show wpAny _ X.A.in1 (again (Code.builtin "min.loop" ⟨[.ref s.heap.objs.size, .ref q, .ref (s.heap.push { cls := .type "list_iterator", data := .fields #[.ref l, .int 0 0] }).objs.size], []⟩)) _ _ _
  rw [sz]
  have I1 : Inv X pins σ H1 { s with heap := (s.heap.push { cls := .type "list_iterator", data := .fields #[.ref l, .int 0 0] }).push (seqObj "list" #[] 0), toks := s.toks } := Iv.kept (t' := s.toks) fun b u e => Heap.get?_push_of_some _ (Heap.get?_push_of_some _ e)
  have gS : ((s.heap.push { cls := .type "list_iterator", data := .fields #[.ref l, .int 0 0] }).push (seqObj "list" #[] 0)).get? (s.heap.objs.size + 1) = some (seqObj "list" #[] 0) := by
    rw [← sz]
    exact Heap.get?_push_size _ rfl
  refine wpAny_pure ⟨plainId_quiet PySem.F.plain_min_loop _, ?_⟩
  refine min_firstI (A := X.A) (s0 := s) (H0 := H1) (k := k) Iv (Nat.le_succ _) (Nat.le_refl _) (Nat.succ_ne_self _) (Nat.ne_of_lt hll) (Nat.ne_of_lt (Nat.lt_succ_of_lt hll)) (x.sqL hs) al nn hu hh (fun v u hv r pins' s' H' I' x' => turn v u hv r pins' s' H' I' (x.trans x')) ?_ [] _ H1 0 I1 (Ex.refl _) (Iv.hok.fresh (Nat.le_succ _)) (Iv.hok.fresh (Nat.le_refl _)) ?_ ?_
  · intro u H' s' r I' x'
    exact ⟨_, H', I', r, _, Ex.refl _, qq H' (x.trans x')⟩
  · exact ⟨_, Heap.get?_push_of_some _ (Heap.get?_push_size _ rfl), rfl, rfl⟩
  · exact gS
abbrev gtD (a b : PyData) : Bool := dataLt b a
theorem max_loopI {x0 : V} {rest : List V} (I0 : Inv X pins σ H0 s0) (hS0 : s0.heap.objs.size ≤ S) (hI0 : s0.heap.objs.size ≤ I) (hne : S ≠ I) (hlI : l ≠ I) (hlS : l ≠ S) (hs : SqL X.K H0 l (x0 :: rest)) (al : ∀ u ∈ x0 :: rest, ∀ v ∈ x0 :: rest, alike (k u) (k v) = true) (nn : ∀ v ∈ x0 :: rest, k v ≠ .none) (hu : ∀ v ∈ x0 :: rest, A.in1.units + (k v).depth < cLine) (hh : A.in1.handled = none)
    (turn : ∀ v u, v ∈ x0 :: rest → RelV v u → ∀ pins' s' H', Inv X pins' σ H' s' → Ex H0 H' → wpAny (model X.prog X.w) A.in1 (call (.ref q) [u]) (fun r s'' => ∃ y H'', Inv X pins' σ H'' s'' ∧ Ex H' H'' ∧ RelV y r ∧ Dp X.K H'' y (k v)) (fun _ _ => False) s')
    (hR : ∀ u H s, RelV (bestK gtD k x0 rest) u → Inv X pins σ H s → Ex H0 H → R (.ok (.ret u)) s) (kw : List (Str × Value)) :
    ∀ (r j : Nat) (s : Shared) (H : Hp) (vb kb : Value) (c : Nat), rest.length - j = r → j ≤ rest.length → Inv X pins σ H s → Ex H0 H → H S = none → H I = none → s.heap.IsListIter I l (j + 1) → s.heap.get? S = some (seqObj "list" #[vb, kb] c) →
      RelV (bestK gtD k x0 (rest.take j)) vb → (∃ y, RelV y kb ∧ Dp X.K H y (k (bestK gtD k x0 (rest.take j)))) → codeAny (model X.prog X.w) A (.builtin "max.loop" ⟨[.ref I, .ref q, .ref S], kw⟩) R s := by
  have hname : (toString "max" ++ toString ".loop" : String) = "max.loop" := by decide
  have fS : ∀ {H' : Hp}, H' S = none → FpOk X pins H' S := fun hn => I0.fpOk hS0 hn
  have fI : ∀ {H' : Hp}, H' I = none → FpOk X pins H' I := fun hn => I0.fpOk hI0 hn
  intro r
  induction r with
  | zero =>
    intro j s H vb kb c hr hj Iv x nS nI hit gS rb hkb
    have ej : j = rest.length := by omega
    subst ej
    rw [List.take_length] at rb
    obtain ⟨its, rv, pl, hz⟩ := Iv.list (x.sqL hs)
    have W := Walks.list (prog := X.prog) (w := X.w) (A := A.in1) hh I l hlI its.toArray
    have hsz : its.toArray.size = rest.length + 1 := by rw [List.size_toArray, ← rv.length]; rfl
    refine codeAny_builtin PySem.F.entry_max_loop ?_
    rw [Around.under_plainId PySem.F.plain_max_loop _]
    show wpAny _ A.in1 (seqItems? (.ref S) >>= _) _ _ _
    refine wpAny_bind (wpAny_seqItems gS rfl ?_)
    show wpAny _ A.in1 (tryCatch (pyNext (.ref I)) _ >>= _) _ _ _
    refine wpAny_bind (wpAny_tryCatch (W.done _ _ _ ⟨by rw [hsz]; exact hit, pl.isList⟩ fun h' tk' hk' => ?_))
    have gS' := hk' S _ (by simpa using hne) gS
    obtain ⟨f0, f1, f2, f3, f4, f5⟩ := fI nI
    have I2 := Iv.turned (t' := tk') (h' := h') (fun b o hb e => hk' b o (by simpa using hb) e) f0 f1 f3 f4 f5
    have s1 := Heap.SameBut.update h' S (Obj.mapSeq fun _ => (#[] : Array Value))
    show wpAny _ A.in1 (updateSeq S (fun _ => #[]) >>= _) _ _ _
    refine wpAny_bind ?_
    refine wpAny_updateSeq gS' rfl (wpAny_bind (wpAny_letGo (wpAny_pure ?_)))
    obtain ⟨f0, f1, f2, f3, f4, f5⟩ := fS nS
    exact hR vb H _ rb (I2.turned (fun b o hb e => (s1.2 b hb).trans e) f0 f1 f3 f4 f5) x
  | succ r ih =>
    intro j s H vb kb c hr hj Iv x nS nI hit gS rb hkb
    have hlt : j < rest.length := by omega
    obtain ⟨its, rv, pl, hz⟩ := Iv.list (x.sqL hs)
    have W := Walks.list (prog := X.prog) (w := X.w) (A := A.in1) hh I l hlI its.toArray
    have hsz : its.toArray.size = rest.length + 1 := by rw [List.size_toArray, ← rv.length]; rfl
    refine codeAny_builtin PySem.F.entry_max_loop ?_
    rw [Around.under_plainId PySem.F.plain_max_loop _]
    show wpAny _ A.in1 (seqItems? (.ref S) >>= _) _ _ _
    refine wpAny_bind (wpAny_seqItems gS rfl ?_)
    show wpAny _ A.in1 (tryCatch (pyNext (.ref I)) _ >>= _) _ _ _
    refine wpAny_bind (wpAny_tryCatch (W.item (j + 1) _ _ _ (by rw [hsz]; omega) ⟨hit, pl.isList⟩ fun v h' tk' hP hst' hk' => ?_))
    have gS' := hk' S _ (by simpa using hne) gS
    obtain ⟨f0, f1, f2, f3, f4, f5⟩ := fI nI
    have I2 := Iv.turned (t' := tk') (h' := h') (fun b o hb e => hk' b o (by simpa using hb) e) f0 f1 f3 f4 f5
    have hv : its[j + 1]? = some v := by simpa using hP
    obtain ⟨y, hy, ry⟩ : ∃ y, rest[j]? = some y ∧ RelV y v := by
      have e1 : rest[j]? = some rest[j] := List.getElem?_eq_getElem hlt
      have e2 : (x0 :: rest)[j + 1]? = some rest[j] := e1
      obtain ⟨u, hu', ru⟩ := rv.get e2
      rw [hv] at hu'
      cases hu'
      exact ⟨_, e1, ru⟩
    have my : y ∈ x0 :: rest := List.mem_cons_of_mem _ (List.mem_of_getElem? hy)
    obtain ⟨oI, goI, oI1, oI2⟩ := id hst'.1
    have Ip := I2.pinned (fp := [S, I]) (fun b hb => by
      simp at hb
      rcases hb with rfl | rfl
      · exact fS nS
      · exact fI nI) (fun b hb => by
      simp at hb
      rcases hb with rfl | rfl
      · exact ⟨_, gS', fun _ => by intro z; cases z⟩
      · exact ⟨_, goI, fun _ => by rw [oI2]; intro z; cases z⟩)
    show wpAny _ A.in1 (tryCatch (holding [v] (call (.ref q) [v])) _ >>= _) _ _ _
    refine wpAny_bind (wpAny_tryCatch (wpAny_holding (wpAny_mono (turn y v my ry _ _ H Ip x) (fun kx s'' he => ?_) fun _ _ hF => hF.elim)))
    obtain ⟨ky, H'', I3, x3, rk, hd⟩ := he
    have pS := I3.pin (S, seqObj "list" #[vb, kb] c) (List.mem_append_right _ (List.mem_append_right _ (mem_pinsAt (by simp) gS')))
    have pI := I3.pin (I, oI) (List.mem_append_right _ (List.mem_append_right _ (mem_pinsAt (by simp) goI)))
    have gS2 : s''.heap.get? S = some (seqObj "list" #[vb, kb] c) := pS.1
    have gI2 : s''.heap.get? I = some oI := pI.1
    have nS2 : H'' S = none := pS.2.1
    have nI2 : H'' I = none := pI.2.1
    have I4 := I3.unpinned
    obtain ⟨yb, ryb, hdb⟩ := hkb
    have hdb2 := Dp.ex x3 hdb
    obtain ⟨as1, r1⟩ := Dp.reads I4 (k y) ky kx hd rk
    obtain ⟨as2, r2⟩ := Dp.reads I4 _ yb kb hdb2 ryb
    have mb := bestK_mem gtD k (rest.take j) x0
    have mb : bestK gtD k x0 (rest.take j) ∈ x0 :: rest := by
      rcases List.mem_cons.mp mb with h | h
      · rw [h]; exact List.mem_cons_self ..
      · exact List.mem_cons_of_mem _ (List.mem_of_mem_take h)
    have ebk : bestK gtD k x0 (rest.take (j + 1)) = if dataLt (k (bestK gtD k x0 (rest.take j))) (k y) = true then y else bestK gtD k x0 (rest.take j) := bestK_take gtD k x0 y rest j hy
    show wpAny _ A.in1 (tryCatch (holding [v, kx] (richCompare .Gt kx kb >>= _)) _ >>= _) _ _ _
    refine wpAny_bind (wpAny_tryCatch (wpAny_holding (wpAny_bind (rcGt_alike _ _ A.in1 s'' kx kb _ _ r1 r2 (al _ my _ mb) (nn _ my) (by
      have := Nat.min_le_left (k y).depth (k (bestK gtD k x0 (rest.take j))).depth
      have := hu y my
      omega) X.prog X.w _ _ ?_))))
    refine wpAny_bind (wpAny_holding (wpAny_truthy_bool ?_))
    refine wpAny_bind (wpAny_letGo (wpAny_pure ?_))
    cases hb : dataLt (k (bestK gtD k x0 (rest.take j))) (k y) with
    | true =>
      rw [hb, if_pos rfl] at ebk
      simp only [if_true]
      have s1 := Heap.SameBut.update s''.heap S (Obj.mapSeq fun _ => #[v, kx])
      obtain ⟨c2, hc2⟩ : ∃ c2, (s''.heap.update S (Obj.mapSeq fun _ => #[v, kx])).get? S = some (seqObj "list" #[v, kx] c2) := ⟨_, get?_update_seq gS2 fun _ => #[v, kx]⟩
      refine wpAny_bind ?_
      refine wpAny_updateSeq gS2 rfl (wpAny_bind (wpAny_letGo ?_))
      rw [hname]
      obtain ⟨f0, f1, f2, f3, f4, f5⟩ := fS nS2
      refine wpAny_pure ⟨plainId_quiet PySem.F.plain_max_loop _, ih (j + 1) _ H'' v kx c2 (by omega) hlt (I4.turned (t' := s''.toks) (fun b o hb e => (s1.2 b hb).trans e) f0 f1 f3 f4 f5) (x.trans x3) nS2 nI2 ⟨oI, (s1.2 I hne.symm).trans gI2, oI1, oI2⟩ hc2 (by rw [ebk]; exact ry) ⟨ky, rk, by rw [ebk]; exact hd⟩⟩
    | false =>
      rw [hb, if_neg (by decide)] at ebk
      simp only [Bool.false_eq_true, if_false]
      refine wpAny_bind (wpAny_letGo ?_)
      rw [hname]
      exact wpAny_pure ⟨plainId_quiet PySem.F.plain_max_loop _, ih (j + 1) _ H'' vb kb c (by omega) hlt I4 (x.trans x3) nS2 nI2 ⟨oI, gI2, oI1, oI2⟩ gS2 (by rw [ebk]; exact rb) ⟨yb, ryb, by rw [ebk]; exact hdb2⟩⟩
theorem max_firstI {x0 : V} {rest : List V} (I0 : Inv X pins σ H0 s0) (hS0 : s0.heap.objs.size ≤ S) (hI0 : s0.heap.objs.size ≤ I) (hne : S ≠ I) (hlI : l ≠ I) (hlS : l ≠ S) (hs : SqL X.K H0 l (x0 :: rest)) (al : ∀ u ∈ x0 :: rest, ∀ v ∈ x0 :: rest, alike (k u) (k v) = true) (nn : ∀ v ∈ x0 :: rest, k v ≠ .none) (hu : ∀ v ∈ x0 :: rest, A.in1.units + (k v).depth < cLine) (hh : A.in1.handled = none)
    (turn : ∀ v u, v ∈ x0 :: rest → RelV v u → ∀ pins' s' H', Inv X pins' σ H' s' → Ex H0 H' → wpAny (model X.prog X.w) A.in1 (call (.ref q) [u]) (fun r s'' => ∃ y H'', Inv X pins' σ H'' s'' ∧ Ex H' H'' ∧ RelV y r ∧ Dp X.K H'' y (k v)) (fun _ _ => False) s')
    (hR : ∀ u H s, RelV (bestK gtD k x0 rest) u → Inv X pins σ H s → Ex H0 H → R (.ok (.ret u)) s) (kw : List (Str × Value)) (s : Shared) (H : Hp) (c : Nat) (Iv : Inv X pins σ H s) (x : Ex H0 H) (nS : H S = none) (nI : H I = none) (hit : s.heap.IsListIter I l 0) (gS : s.heap.get? S = some (seqObj "list" #[] c)) :
    codeAny (model X.prog X.w) A (.builtin "max.loop" ⟨[.ref I, .ref q, .ref S], kw⟩) R s := by
  have hname : (toString "max" ++ toString ".loop" : String) = "max.loop" := by decide
  have fS : ∀ {H' : Hp}, H' S = none → FpOk X pins H' S := fun hn => I0.fpOk hS0 hn
  have fI : ∀ {H' : Hp}, H' I = none → FpOk X pins H' I := fun hn => I0.fpOk hI0 hn
  obtain ⟨its, rv, pl, hz⟩ := Iv.list (x.sqL hs)
  have W := Walks.list (prog := X.prog) (w := X.w) (A := A.in1) hh I l hlI its.toArray
  have hsz : its.toArray.size = rest.length + 1 := by rw [List.size_toArray, ← rv.length]; rfl
  refine codeAny_builtin PySem.F.entry_max_loop ?_
  rw [Around.under_plainId PySem.F.plain_max_loop _]
  show wpAny _ A.in1 (seqItems? (.ref S) >>= _) _ _ _
  refine wpAny_bind (wpAny_seqItems gS rfl ?_)
  show wpAny _ A.in1 (tryCatch (pyNext (.ref I)) _ >>= _) _ _ _
  refine wpAny_bind (wpAny_tryCatch (W.item 0 _ _ _ (by rw [hsz]; omega) ⟨hit, pl.isList⟩ fun v h' tk' hP hst' hk' => ?_))
  have gS' := hk' S _ (by simpa using hne) gS
  obtain ⟨f0, f1, f2, f3, f4, f5⟩ := fI nI
  have I2 := Iv.turned (t' := tk') (h' := h') (fun b o hb e => hk' b o (by simpa using hb) e) f0 f1 f3 f4 f5
  have hv : its[0]? = some v := by simpa using hP
  have ry : RelV x0 v := by
    obtain ⟨u, hu', ru⟩ := rv.get (i := 0) (x := x0) rfl
    rw [hv] at hu'
    cases hu'
    exact ru
  have my : x0 ∈ x0 :: rest := List.mem_cons_self ..
  obtain ⟨oI, goI, oI1, oI2⟩ := id hst'.1
  have Ip := I2.pinned (fp := [S, I]) (fun b hb => by
    simp at hb
    rcases hb with rfl | rfl
    · exact fS nS
    · exact fI nI) (fun b hb => by
    simp at hb
    rcases hb with rfl | rfl
    · exact ⟨_, gS', fun _ => by intro z; cases z⟩
    · exact ⟨_, goI, fun _ => by rw [oI2]; intro z; cases z⟩)
  show wpAny _ A.in1 (tryCatch (holding [v] (call (.ref q) [v])) _ >>= _) _ _ _
  refine wpAny_bind (wpAny_tryCatch (wpAny_holding (wpAny_mono (turn x0 v my ry _ _ H Ip x) (fun kx s'' he => ?_) fun _ _ hF => hF.elim)))
  obtain ⟨ky, H'', I3, x3, rk, hd⟩ := he
  have pS := I3.pin (S, seqObj "list" #[] c) (List.mem_append_right _ (List.mem_append_right _ (mem_pinsAt (by simp) gS')))
  have pI := I3.pin (I, oI) (List.mem_append_right _ (List.mem_append_right _ (mem_pinsAt (by simp) goI)))
  have gS2 : s''.heap.get? S = some (seqObj "list" #[] c) := pS.1
  have gI2 : s''.heap.get? I = some oI := pI.1
  have nS2 : H'' S = none := pS.2.1
  have nI2 : H'' I = none := pI.2.1
  have I4 := I3.unpinned
  show wpAny _ A.in1 (updateSeq S (fun _ => #[v, kx]) >>= _) _ _ _
  have s1 := Heap.SameBut.update s''.heap S (Obj.mapSeq fun _ => #[v, kx])
  obtain ⟨c2, hc2⟩ : ∃ c2, (s''.heap.update S (Obj.mapSeq fun _ => #[v, kx])).get? S = some (seqObj "list" #[v, kx] c2) := ⟨_, get?_update_seq gS2 fun _ => #[v, kx]⟩
  refine wpAny_bind ?_
  refine wpAny_updateSeq gS2 rfl ?_
  rw [hname]
  obtain ⟨f0, f1, f2, f3, f4, f5⟩ := fS nS2
  exact wpAny_pure ⟨plainId_quiet PySem.F.plain_max_loop _, max_loopI I0 hS0 hI0 hne hlI hlS hs al nn hu hh turn hR _ _ 0 _ H'' v kx c2 rfl (Nat.zero_le _) (I4.turned (t' := s''.toks) (fun b o hb e => (s1.2 b hb).trans e) f0 f1 f3 f4 f5) (x.trans x3) nS2 nI2 ⟨oI, (s1.2 I hne.symm).trans gI2, oI1, oI2⟩ hc2 ry ⟨ky, rk, hd⟩⟩
/-- max(xs, key=f) at the values -/
theorem maxI {x0 : V} {rest : List V} {Q : VK} (Iv : Inv X pins σ H1 s) (x : Ex H H1) (hs : SqL X.K H l (x0 :: rest)) (al : ∀ u ∈ x0 :: rest, ∀ v ∈ x0 :: rest, alike (k u) (k v) = true) (nn : ∀ v ∈ x0 :: rest, k v ≠ .none) (hu : ∀ v ∈ x0 :: rest, X.A.in1.units + (k v).depth < cLine) (hh : X.A.in1.handled = none)
    (turn : ∀ v u, v ∈ x0 :: rest → RelV v u → ∀ pins' s' H', Inv X pins' σ H' s' → Ex H H' → wpAny (model X.prog X.w) X.A.in1 (call (.ref q) [u]) (fun r s'' => ∃ y H'', Inv X pins' σ H'' s'' ∧ Ex H' H'' ∧ RelV y r ∧ Dp X.K H'' y (k v)) (fun _ _ => False) s')
    (qq : ∀ H', Ex H H' → Q (bestK gtD k x0 rest) H') : wpAny (model X.prog X.w) X.A (call (.builtin "max") [.ref l] [(Str.ofString "key", .ref q)]) (EP X pins σ (up Q)) X.xe s := by
  have hname : (toString "max" ++ toString ".loop" : String) = "max.loop" := by decide
  obtain ⟨its, rv, pl, hz⟩ := Iv.list (x.sqL hs)
  refine PyProof.Rows.kmk_tree PySem.F.kind_max PySem.F.plain_max PySem.F.entry_max (PyProof.Rows.kmk_max_key _ _) ?_
  show wpAny _ X.A.in1 (Builtin.Builtins.bindParams "max" ["key", "default"] 0 ⟨[], [(Str.ofString "key", .ref q)]⟩ >>= _) _ _ s
  refine wpAny_bind (wpAny_of_eq (show Builtin.Builtins.bindParams "max" ["key", "default"] 0 ⟨[], [(Str.ofString "key", .ref q)]⟩ = pure [some (.ref q), none] from rfl) ?_)
  refine wpAny_bind (wpAny_pure ?_)
  refine wpAny_bind (wpAny_pyIter_list pl.isList ?_)
  refine wpAny_bind (wpAny_newList ?_ (Nat.zero_le _))
  rw [hname]
  obtain ⟨ol, gl, _⟩ := pl.isList
  have hll : l < s.heap.objs.size := Heap.lt_size gl
  have sz : (s.heap.push { cls := .type "list_iterator", data := .fields #[.ref l, .int 0 0] }).objs.size = s.heap.objs.size + 1 := Heap.size_push ..
  show wpAny _ X.A.in1 (again (Code.builtin "max.loop" ⟨[.ref s.heap.objs.size, .ref q, .ref (s.heap.push { cls := .type "list_iterator", data := .fields #[.ref l, .int 0 0] }).objs.size], []⟩)) _ _ _
  rw [sz]
  have I1 : Inv X pins σ H1 { s with heap := (s.heap.push { cls := .type "list_iterator", data := .fields #[.ref l, .int 0 0] }).push (seqObj "list" #[] 0), toks := s.toks } := Iv.kept (t' := s.toks) fun b u e => Heap.get?_push_of_some _ (Heap.get?_push_of_some _ e)
  have gS : ((s.heap.push { cls := .type "list_iterator", data := .fields #[.ref l, .int 0 0] }).push (seqObj "list" #[] 0)).get? (s.heap.objs.size + 1) = some (seqObj "list" #[] 0) := by
    rw [← sz]
    exact Heap.get?_push_size _ rfl
  refine wpAny_pure ⟨plainId_quiet PySem.F.plain_max_loop _, ?_⟩
  refine max_firstI (A := X.A) (s0 := s) (H0 := H1) (k := k) Iv (Nat.le_succ _) (Nat.le_refl _) (Nat.succ_ne_self _) (Nat.ne_of_lt hll) (Nat.ne_of_lt (Nat.lt_succ_of_lt hll)) (x.sqL hs) al nn hu hh (fun v u hv r pins' s' H' I' x' => turn v u hv r pins' s' H' I' (x.trans x')) ?_ [] _ H1 0 I1 (Ex.refl _) (Iv.hok.fresh (Nat.le_succ _)) (Iv.hok.fresh (Nat.le_refl _)) ?_ ?_
  · intro u H' s' r I' x'
    exact ⟨_, H', I', r, _, Ex.refl _, qq H' (x.trans x')⟩
  · exact ⟨_, Heap.get?_push_of_some _ (Heap.get?_push_size _ rfl), rfl, rfl⟩
  · exact gS
end
/-! ## the reading -/
section
open PySem.W (dataLt alike)
variable {X : Cx} {j k : Nat} {W : WX} {e : Expr} {es : List Expr} {kws : List Keyword} {σ : St} {H H1 : Hp} {Q : VK} {pos p : Pos} {to : RX} {tk : RA} {n x : Str} {sp : Sp}
/-- min(xs, key=f), f the def at fA -/
def rMinK (K : PySem.W.Frag) (fA : Addr) (sp : Sp) (to : RX) (tk : RA) : RX := fun σ H Q W => to σ H (fun x H1 => tk σ H1 (fun zs H2 => zs = [.ref fA] ∧ ∃ (l : Addr) (x0 : V) (rest : List V) (k : V → PyData), x = .ref l ∧ SqL K H2 l (x0 :: rest) ∧ (∀ u ∈ x0 :: rest, ∀ v ∈ x0 :: rest, alike (k u) (k v) = true) ∧ (∀ v ∈ x0 :: rest, k v ≠ .none) ∧ (∀ v ∈ x0 :: rest, (k v).depth ≤ 20) ∧
  (∀ v ∈ x0 :: rest, ∀ H', Ex H2 H' → sp [v] H' (fun y H'' => Ex H' H'' ∧ Dp K H'' y (k v)) fun _ _ _ => False) ∧ ∀ H', Ex H2 H' → Q (bestK dataLt k x0 rest) H') W) W
theorem s_minK {fA : Addr} (C : Cal X.prog X.w X.K X.mg X.base n k [x] [] sp) (hn : X.mg n = some (.ref fA)) (hm : X.mg "min" = none) (h : SX X j to e) (hk : SK X j tk kws) (hkj : k + 2 ≤ j := by decide) (hg : Gl X "min" := by rfl)
    (he : backTo pos (starEach [e] X.env) = (false, eval e X.env) :: backTo pos (starEach [] X.env) := by rfl) (hpl : (backTo pos (starEach [e] X.env)).any (·.1) = false := by rfl) (he2 : starEach [e] X.env = (false, eval e X.env) :: starEach [] X.env := by rfl)
    (hall : (backToKw pos (keywordEach kws X.env)).all (·.1.isSome) = true := by rfl) (hnone : (backToKw pos (keywordEach kws X.env)).any (·.1.isNone) = false := by rfl) (hks : (backToKw pos (keywordEach kws X.env)).filterMap (·.1) = [Str.ofString "key"] := by rfl) : SX X j (rMinK X.K fA sp to tk) (.Call (.Name "min" p) [e] kws pos) := by
  obtain ⟨f, fd, ds, F, hm2, hkp, hb, hd, _⟩ := C.ex
  cases hd
  have ef : f = fA := by
    have := hm2.symm.trans hn
    cases this
    rfl
  subst ef
  refine ⟨fun c σ H Q q H1 x1 pins s I => ?_⟩
  refine wpAny_Call_Name_kw (ld_blt I hg hm PyProof.Rows.boot_min ?_ (by decide) (by decide))
  refine PyProof.Rows.callWith_kw (PyProof.Rows.args_cons (thn (h.run c q H1 x1 pins s I) fun u s1 ⟨y, H2, I2, ry, H3, x3, q⟩ => PyProof.Rows.args_nil ?_) he2) he hpl hall hnone
  refine thn (hk.run c q H2 x3 pos pins s1 I2) fun ws s2 ⟨zs, H4, I4, rz, H5, x5, ez, l, x0, rest, kk, ey, hs, hal, hnn, hdp, ht, q9⟩ => ?_
  subst ez ey
  obtain rfl : u = Value.ref l := ry
  cases rz with
  | cons r0 r1 =>
    cases r1
    cases r0
    rw [hks]
    have rm := (c.mono hkj).room
    refine minI (q := f) (k := kk) I4 x5 hs hal hnn (fun v hv => by have := rm.in1.un; have := hdp v hv; omega) rm.in1.hd (fun v u hv hr pins' s' H' I' x' => ?_) q9
    exact run_keyed F (rm.in1.mono (Nat.le_succ _)) c.gd rfl hb I' hr (ht v hv H' x')
/-- max(xs, key=f), f the def at fA -/
def rMaxK (K : PySem.W.Frag) (fA : Addr) (sp : Sp) (to : RX) (tk : RA) : RX := fun σ H Q W => to σ H (fun x H1 => tk σ H1 (fun zs H2 => zs = [.ref fA] ∧ ∃ (l : Addr) (x0 : V) (rest : List V) (k : V → PyData), x = .ref l ∧ SqL K H2 l (x0 :: rest) ∧ (∀ u ∈ x0 :: rest, ∀ v ∈ x0 :: rest, alike (k u) (k v) = true) ∧ (∀ v ∈ x0 :: rest, k v ≠ .none) ∧ (∀ v ∈ x0 :: rest, (k v).depth ≤ 20) ∧
  (∀ v ∈ x0 :: rest, ∀ H', Ex H2 H' → sp [v] H' (fun y H'' => Ex H' H'' ∧ Dp K H'' y (k v)) fun _ _ _ => False) ∧ ∀ H', Ex H2 H' → Q (bestK gtD k x0 rest) H') W) W
theorem s_maxK {fA : Addr} (C : Cal X.prog X.w X.K X.mg X.base n k [x] [] sp) (hn : X.mg n = some (.ref fA)) (hm : X.mg "max" = none) (h : SX X j to e) (hk : SK X j tk kws) (hkj : k + 2 ≤ j := by decide) (hg : Gl X "max" := by rfl)
    (he : backTo pos (starEach [e] X.env) = (false, eval e X.env) :: backTo pos (starEach [] X.env) := by rfl) (hpl : (backTo pos (starEach [e] X.env)).any (·.1) = false := by rfl) (he2 : starEach [e] X.env = (false, eval e X.env) :: starEach [] X.env := by rfl)
    (hall : (backToKw pos (keywordEach kws X.env)).all (·.1.isSome) = true := by rfl) (hnone : (backToKw pos (keywordEach kws X.env)).any (·.1.isNone) = false := by rfl) (hks : (backToKw pos (keywordEach kws X.env)).filterMap (·.1) = [Str.ofString "key"] := by rfl) : SX X j (rMaxK X.K fA sp to tk) (.Call (.Name "max" p) [e] kws pos) := by
  obtain ⟨f, fd, ds, F, hm2, hkp, hb, hd, _⟩ := C.ex
  cases hd
  have ef : f = fA := by
    have := hm2.symm.trans hn
    cases this
    rfl
  subst ef
  refine ⟨fun c σ H Q q H1 x1 pins s I => ?_⟩
  refine wpAny_Call_Name_kw (ld_blt I hg hm PyProof.Rows.boot_max ?_ (by decide) (by decide))
  refine PyProof.Rows.callWith_kw (PyProof.Rows.args_cons (thn (h.run c q H1 x1 pins s I) fun u s1 ⟨y, H2, I2, ry, H3, x3, q⟩ => PyProof.Rows.args_nil ?_) he2) he hpl hall hnone
  refine thn (hk.run c q H2 x3 pos pins s1 I2) fun ws s2 ⟨zs, H4, I4, rz, H5, x5, ez, l, x0, rest, kk, ey, hs, hal, hnn, hdp, ht, q9⟩ => ?_
  subst ez ey
  obtain rfl : u = Value.ref l := ry
  cases rz with
  | cons r0 r1 =>
    cases r1
    cases r0
    rw [hks]
    have rm := (c.mono hkj).room
    refine maxI (q := f) (k := kk) I4 x5 hs hal hnn (fun v hv => by have := rm.in1.un; have := hdp v hv; omega) rm.in1.hd (fun v u hv hr pins' s' H' I' x' => ?_) q9
    exact run_keyed F (rm.in1.mono (Nat.le_succ _)) c.gd rfl hb I' hr (ht v hv H' x')
end

/-! ## dict comprehensions, sorted(d), list(d.items()) -/
section
variable {X : Cx} {j : Nat} {W : WX} {e : Expr} {σ : St} {H H1 : Hp} {Q : VK} {pos p apos cpos : Pos} {t to : RX} {tc : RT} {g : RG} {tg iter : Expr}
theorem dc_itG {J : It} {n : Nat} {G : Hp → Prop} {Y : Nat → Hp → V → Hp → Prop} (w : Walk J n G Y) {g : TG} {tt : TT} {tk te : TE} {vs : List Nat} {σ : St} {H1 : Hp} {D : Addr} {Qd : Hp → Prop} (Pv : Nat → Hp → Prop) (h0 : Pv 0 (upd H1 D (.dK []))) (hG : ∀ i H, i ≤ n → Pv i H → G H)
    (hs : ∀ i x H H', i < n → Pv i H → Y i H x H' → g x (wipe σ vs) H' fun σ2 H2 => wipe σ2 vs = wipe σ vs ∧ tt σ2 H2 fun b H3 =>
      if b = true then tk σ2 H3 fun y H4 => te σ2 H4 fun z H5 => ∃ kvs k, y = kV k ∧ H5 D = some (.dK kvs) ∧ kvs.length < sizeLine ∧ Pv (i + 1) (upd H5 D (.dK (putK kvs k z))) else Pv (i + 1) H3) (hd : ∀ H, Pv n H → Qd H) :
    ∃ W : Nat → Nat → Hp → Prop, (∃ m, W 0 m (upd H1 D (.dK []))) ∧ ∀ i m H, W i m H →
      (J.stop i H ∧ Qd H) ∨ (J.go i H ∧ ∃ Nx : Hp → Prop, (∀ H', Nx H' → ∃ m', m' < m ∧ W (i + 1) m' H') ∧ ∀ x H', J.yld i H x H' → g x (wipe σ vs) H' fun σ2 H2 => wipe σ2 vs = wipe σ vs ∧ tt σ2 H2 fun b H3 =>
        if b = true then tk σ2 H3 fun y H4 => te σ2 H4 fun z H5 => ∃ kvs k, y = kV k ∧ H5 D = some (.dK kvs) ∧ kvs.length < sizeLine ∧ Nx (upd H5 D (.dK (putK kvs k z))) else Nx H3) := by
  refine ⟨fun i m H => m = n - i ∧ i ≤ n ∧ Pv i H, ⟨n, by simp, Nat.zero_le _, h0⟩, ?_⟩
  rintro i m H ⟨rfl, hi, p⟩
  have q := hG i H hi p
  by_cases hlt : i < n
  · refine .inr ⟨w.goes i H hlt q, Pv (i + 1), fun H' p' => ⟨n - (i + 1), by omega, rfl, hlt, p'⟩, fun x H' y => hs i x H H' hlt p (w.yields i H x H' hlt q y)⟩
  · have e : i = n := by omega
    subst e
    exact .inl ⟨w.stops H q, hd H p⟩
/-- {k: v for tg in it if tc} -/
def DcP (n : Nat) (G : Hp → Prop) (Y : Nat → Hp → VK → Prop) (g : RG) (tc : RT) (tk elt : RX) (vs : List Nat) (σ : St) (H1 : Hp) (Q : VK) : Prop := ∃ Pv : Nat → List (Key × V) → Hp → Prop, Pv 0 [] H1 ∧ (∀ i acc H', i ≤ n → Pv i acc H' → G H' ∧ acc.length < 100000) ∧
  (∀ i acc H' d, i < n → Pv i acc H' → H' d = none → Y i (upd H' d (.dK acc)) fun x H2 => g x (wipe σ vs) H2 (fun σ3 H3 => wipe σ3 vs = wipe σ vs ∧ tc σ3 H3 (fun k H4 =>
    (k = true → tk σ3 H4 (fun z H5 => elt σ3 H5 (fun y H7 => ∃ kx H6, z = kV kx ∧ H6 d = none ∧ Ex (upd H6 d (.dK acc)) H7 ∧ Pv (i + 1) (putK acc kx y) H6) noW) noW) ∧ (k = false → ∃ H6, H6 d = none ∧ Ex (upd H6 d (.dK acc)) H4 ∧ Pv (i + 1) acc H6)) noW) noW) ∧
  ∀ acc H' q, Pv n acc H' → H' q = none → Q (.ref q) (upd H' q (.dK acc))
@[irreducible] def DcB (n : Nat) (G : Hp → Prop) (Y : Nat → Hp → VK → Prop) (g : RG) (tc : RT) (tk elt : RX) (vs : List Nat) (σ : St) (H1 : Hp) (Q : VK) : Prop := DcP n G Y g tc tk elt vs σ H1 Q
theorem DcB.out {n : Nat} {G : Hp → Prop} {Y : Nat → Hp → VK → Prop} {tk elt : RX} {vs : List Nat} (h : DcB n G Y g tc tk elt vs σ H1 Q) : DcP n G Y g tc tk elt vs σ H1 Q := by
  unfold DcB at h
  exact h
theorem dcB {n : Nat} {G : Hp → Prop} {Y : Nat → Hp → VK → Prop} {tk elt : RX} {vs : List Nat} (Pv : Nat → List (Key × V) → Hp → Prop) (h0 : Pv 0 [] H1) (hG : ∀ i acc H', i ≤ n → Pv i acc H' → G H' ∧ acc.length < 100000)
    (turn : ∀ i acc H' d, i < n → Pv i acc H' → H' d = none → Y i (upd H' d (.dK acc)) fun x H2 => g x (wipe σ vs) H2 (fun σ3 H3 => wipe σ3 vs = wipe σ vs ∧ tc σ3 H3 (fun k H4 =>
    (k = true → tk σ3 H4 (fun z H5 => elt σ3 H5 (fun y H7 => ∃ kx H6, z = kV kx ∧ H6 d = none ∧ Ex (upd H6 d (.dK acc)) H7 ∧ Pv (i + 1) (putK acc kx y) H6) noW) noW) ∧ (k = false → ∃ H6, H6 d = none ∧ Ex (upd H6 d (.dK acc)) H4 ∧ Pv (i + 1) acc H6)) noW) noW)
    (done : ∀ acc H' q, Pv n acc H' → H' q = none → Q (.ref q) (upd H' q (.dK acc))) : DcB n G Y g tc tk elt vs σ H1 Q := by
  unfold DcB
  exact ⟨Pv, h0, hG, turn, done⟩
def rDc (it : RI) (g : RG) (tc : RT) (tk elt : RX) (vs : List Nat) : RX := fun σ H Q W => it σ H (fun n G Y H1 => DcB n G Y g tc tk elt vs σ H1 Q) W
theorem dc_ok {scope : Scope} {own : List (Str × Nat)} {it : RI} {elt kx : Expr} {ifs : List Expr} {tk te : RX} (cn : Cn X (upW W) j) (hi : SIt X j it tg iter)
    (q : rDc it g tc tk te (own.map (·.2)) σ H Q W) : ∃ wi, PI X tg iter wi ∧ ∀ H1, Ex H H1 → tDc wi (gBW X scope g tg) (tBW X scope tc iter) (eBW X scope tk kx) (eBW X scope te elt) (own.map (·.2)) σ H1 (up Q) := by
  obtain ⟨wi, pi, k⟩ := hi.ex
  refine ⟨wi, pi, fun H1 x => ?_⟩
  refine k cn q H1 x _ fun J H2 H' n G Y x2 hJ hb0 D hD => ?_
  obtain ⟨Pv, h0, hG, hs, hd⟩ := hb0.out
  obtain ⟨G0, Y0, wk, hG0, hY⟩ := hJ.ex
  refine dc_itG wk (fun i H4 => ∃ acc H5, H5 D = none ∧ Ex (upd H5 D (.dK acc)) H4 ∧ Pv i acc H5) ⟨[], H', x2.free hD, x2.set D _, h0⟩ (fun i H4 hi ⟨acc, H5, n5, x5, p⟩ => hG0 _ _ (hG i acc H5 hi p).1 ((Ex.put n5).trans x5)) (fun i y H4 H4' hi ⟨acc, H5, n5, x5, p⟩ hy => ?_) fun H4 ⟨acc, H5, n5, x5, p⟩ => ⟨_, x5, hd acc H5 D p n5⟩
  obtain ⟨H6, x6, q6⟩ := hY i _ H4 y H4' _ hi x5 hy (hs i acc H5 D hi p n5)
  have hz := (hG i acc H5 (Nat.le_of_lt hi) p).2
  refine ⟨H6, _, x6, q6, fun σ7 H7 ⟨H8, x8, ew, q8⟩ => ⟨ew, H8, _, x8, q8, fun b H9 ⟨H10, x10, q10⟩ => ?_⟩⟩
  cases b with
  | true =>
    rw [if_pos rfl]
    refine ⟨H10, _, x10, q10.1 rfl, fun z H11 ⟨H12, x12, q12⟩ => ⟨H12, _, x12, q12, fun y H13 ⟨H14, x14, kx, H15, ek, n15, x15, p15⟩ => ⟨acc, kx, ek, (x15.trans x14) _ _ upd_same, Nat.lt_trans hz (by decide), putK acc kx y, H15, n15, ?_, p15⟩⟩⟩
    have z := (x15.trans x14).set D (.dK (putK acc kx y))
    rw [upd_upd] at z
    exact z
  | false =>
    rw [if_neg (by decide)]
    obtain ⟨H13, n13, x13, p13⟩ := q10.2 rfl
    exact ⟨acc, H13, n13, x13.trans x10, p13⟩
theorem s_dc0 {scope : Scope} {own : List (Str × Nat)} {it : RI} {elt kx : Expr} {tk te : RX} (hi : SIt X j it tg iter) (hN : X.N.Nodup) (ok : blkC X.N X.env.scope scope own = true) (hg : InB X scope fun Y => SG Y j g tg) (hk : InB X scope fun Y => SX Y j tk kx) (he : InB X scope fun Y => SX Y j te elt) (hc : X.calm = true := by rfl) (hs : ∀ x, foldedSetIterable iter X.env x = pure x := by intro _; rfl) :
    SX X j (rDc it g tY tk te (own.map (·.2))) (.DictComp kx elt [⟨tg, iter, [], 0⟩] scope pos) := ⟨fun cn σ H Q q => by
  obtain ⟨wi, pi, k⟩ := dc_ok (scope := scope) (elt := elt) (kx := kx) (ifs := []) cn hi q
  exact .of (pe_dc hc hN pi (blkOk_by ok) (gBW_ok cn hg) tBW_ok0 (eBW_ok cn hk) (eBW_ok cn he) hs) k⟩
theorem s_dc1 {scope : Scope} {own : List (Str × Nat)} {it : RI} {elt kx cd : Expr} {tk te : RX} (hi : SIt X j it tg iter) (hN : X.N.Nodup) (ok : blkC X.N X.env.scope scope own = true) (hg : InB X scope fun Y => SG Y j g tg) (ht : InB X scope fun Y => SB Y j tc cd) (hk : InB X scope fun Y => SX Y j tk kx) (he : InB X scope fun Y => SX Y j te elt) (hc : X.calm = true := by rfl) (hs : ∀ x, foldedSetIterable iter X.env x = pure x := by intro _; rfl) :
    SX X j (rDc it g tc tk te (own.map (·.2))) (.DictComp kx elt [⟨tg, iter, [cd], 0⟩] scope pos) := ⟨fun cn σ H Q q => by
  obtain ⟨wi, pi, k⟩ := dc_ok (scope := scope) (elt := elt) (kx := kx) (ifs := [cd]) cn hi q
  exact .of (pe_dc hc hN pi (blkOk_by ok) (gBW_ok cn hg) (tBW_ok cn ht) (eBW_ok cn hk) (eBW_ok cn he) hs) k⟩
/-- sorted(d), the keys ints -/
def cSortDI : RC := c1 fun x H Q => ∃ a kvs ks, x = .ref a ∧ H a = some (.dK kvs) ∧ kvs.map (·.1) = ks.map Sum.inl ∧ ks.length < 64 ∧ ∀ (ys : List Int) (p : Addr), ys.Perm ks → ys.Pairwise (· ≤ ·) → H p = none → Q (.ref p) (upd H p (.lst (ys.map V.int)))
theorem c_sortDI (hc : X.calm = true := by rfl) : SC X (.builtin "sorted") cSortDI := sc1 fun x H Q ⟨a, kvs, ks, e, g, hk, h64, q⟩ H1 x1 pins s σ us I r => by
  subst e
  exact call_sortedDI hc pins s σ H1 _ us _ I r ⟨a, kvs, ks, rfl, .inl (x1 _ _ g), hk, h64, fun ys p h1 h2 np => ⟨_, x1.set p _, q ys p h1 h2 (x1.free np)⟩⟩
/-- two texts joined -/
def oAddS : RO := fun x y H Q => ∃ i j, x = .str i ∧ y = .str j ∧ i.length + j.length ≤ sizeLine ∧ Q (.str (i ++ j)) H
theorem o_addS : SO X (binaryOp .Add) oAddS := .of op_add_str fun x y H Q ⟨i, j, e1, e2, hl, q⟩ H1 x1 => ⟨i, j, e1, e2, hl, H, x1, q⟩
/-- list(d.items()) -/
def rListItems (to : RX) : RX := fun σ H Q W => to σ H (fun x H1 => ∃ (d : Addr) (kvs : List (Key × V)), x = .ref d ∧ H1 d = some (.dK kvs) ∧
  ∀ (H' : Hp) (p : Addr) (ts : List Addr), Ex H1 H' → H1 p = none → (∀ t ∈ ts, H1 t = none) → p ∉ ts → H' p = some (.lst (ts.map V.ref)) → Paired (fun (t : Addr) (q : Key × V) => H' t = some (.tup [kV q.1, q.2])) ts kvs → Q (.ref p) H') W
theorem s_listItems (hm : X.mg "list" = none) (h : SX X j to e) (hc : X.calm = true := by rfl) (hg : Gl X "list" := by rfl) (hbase : attributeBase e "items" X.env (eval e X.env) = eval e X.env := by rfl) (hline : (apos.endLine == cpos.line) = true := by rfl)
    (hs : starEach [.Call (.Attribute e "items" apos) [] [] cpos] X.env = (false, eval (.Call (.Attribute e "items" apos) [] [] cpos) X.env) :: starEach [] X.env := by rfl) :
    SX X j (rListItems to) (.Call (.Name "list" p) [.Call (.Attribute e "items" apos) [] [] cpos] [] pos) :=
  ⟨fun c σ H Q q => .of (LiI.pe_listItems hc pe_W hg hm PyProof.Rows.boot_list hbase hline hs) fun H1 x => (h.run c q).t x fun v H2 ⟨H3, x3, d, kvs, e, hd, k⟩ => ⟨d, kvs, e, x3 _ _ hd, fun H' p ts g1 g2 g3 g4 g5 g6 => ⟨H', Ex.refl _, k H' p ts (x3.trans g1) (x3.free g2) (fun t ht => x3.free (g3 t ht)) g4 g5 g6⟩⟩⟩
end
/-! ## memories: the last two multiples of each power of two -/
def mult (j : Nat) (vs : List Int) : List Int := vs.filter fun u => decide (u % 2 ^ j = 0)
def last2 {α : Type} (l : List α) : List α := l.drop (l.length - 2)
theorem last2_mem {α : Type} {l : List α} {x : α} (h : x ∈ last2 l) : x ∈ l := List.mem_of_mem_drop h
theorem last2_len {α : Type} (l : List α) : (last2 l).length ≤ 2 := by
  unfold last2
  rw [List.length_drop]
  omega
theorem last2_map {α β : Type} (f : α → β) (l : List α) : last2 (l.map f) = (last2 l).map f := by
  unfold last2
  rw [List.length_map, List.map_drop]
theorem last2_small {α : Type} {l : List α} (h : l.length ≤ 2) : last2 l = l := by
  unfold last2
  rw [show l.length - 2 = 0 by omega]
  rfl
theorem cutV_last2 (xs : List V) : cutV xs (some (-2)) none = last2 xs := by
  have e1 : HT.sIx xs.length 0 (some (-2)) = xs.length - 2 := by
    show (if (-2 : Int) < 0 then ((-2 : Int) + (xs.length : Int)).toNat else min (-2 : Int).toNat xs.length) = _
    rw [if_pos (by decide)]
    omega
  unfold cutV last2
  rw [e1]
  show List.take (xs.length - (xs.length - 2)) _ = _
  rw [List.take_of_length_le (by rw [List.length_drop]; omega)]
/-- is among the last two multiples of a power of two -/
def InK (vs : List Int) (v : Int) : Prop := ∃ j : Nat, v ∈ last2 (mult j vs)
theorem InK.mem {vs : List Int} {v : Int} (h : InK vs v) : v ∈ vs := by
  obtain ⟨j, h⟩ := h
  exact (List.mem_filter.mp (last2_mem h)).1
theorem pow_dvd_lt {J j : Nat} {v : Int} (h0 : 0 ≤ v) (h1 : v < 2 ^ J) (hj : J ≤ j) (hm : v % 2 ^ j = 0) : v = 0 := by
  have h2 : (2 : Int) ^ J ≤ 2 ^ j := by
    have : (2 : Nat) ^ J ≤ 2 ^ j := Nat.pow_le_pow_right (by decide) hj
    exact_mod_cast this
  have : v % 2 ^ j = v := Int.emod_eq_of_lt h0 (Int.lt_of_lt_of_le h1 h2)
  omega
theorem last2_zeros {l : List Int} (h : ∀ u ∈ l, u = 0) (m : (0 : Int) ∈ l) : (0 : Int) ∈ last2 l := by
  have hl : 0 < l.length := List.length_pos_of_mem m
  have hp : 0 < (last2 l).length := by
    unfold last2
    rw [List.length_drop]
    omega
  obtain ⟨x, hx⟩ := List.exists_mem_of_length_pos hp
  have := h x (last2_mem hx)
  subst this
  exact hx
theorem InK.upto {vs : List Int} {v : Int} {J : Nat} (hb : ∀ u ∈ vs, 0 ≤ u ∧ u < 2 ^ J) : InK vs v ↔ ∃ j, j ≤ J ∧ v ∈ last2 (mult j vs) := by
  refine ⟨fun ⟨j, h⟩ => ?_, fun ⟨j, _, h⟩ => ⟨j, h⟩⟩
  by_cases hj : j ≤ J
  · exact ⟨j, hj, h⟩
  · obtain ⟨m1, m2⟩ := List.mem_filter.mp (last2_mem h)
    have e : v = 0 := pow_dvd_lt (hb v m1).1 (hb v m1).2 (show J ≤ j by omega) (of_decide_eq_true m2)
    subst e
    refine ⟨J, Nat.le_refl _, last2_zeros (fun u hu => ?_) (List.mem_filter.mpr ⟨m1, by simp⟩)⟩
    obtain ⟨a1, a2⟩ := List.mem_filter.mp hu
    exact pow_dvd_lt (hb u a1).1 (hb u a1).2 (Nat.le_refl J) (of_decide_eq_true a2)
def keptV (vs : List Int) : List Int := vs.filter fun v => (List.range 211).any fun j => decide (v ∈ last2 (mult j vs))
abbrev Big2 (v : Int) : Prop := 0 ≤ v ∧ v < 2 ^ 210
theorem mem_keptV {vs : List Int} {v : Int} (hb : ∀ u ∈ vs, Big2 u) : v ∈ keptV vs ↔ InK vs v := by
  rw [InK.upto hb]
  unfold keptV
  rw [List.mem_filter, List.any_eq_true]
  refine ⟨fun ⟨_, j, hj, h⟩ => ⟨j, by have := List.mem_range.mp hj; omega, of_decide_eq_true h⟩, fun ⟨j, hj, h⟩ => ⟨(List.mem_filter.mp (last2_mem h)).1, j, List.mem_range.mpr (by omega), decide_eq_true h⟩⟩
theorem keptV_sub {vs : List Int} {v : Int} (h : v ∈ keptV vs) : v ∈ vs := (List.mem_filter.mp h).1
theorem keptV_pw {vs : List Int} (h : vs.Pairwise (· < ·)) : (keptV vs).Pairwise (· < ·) := h.sublist List.filter_sublist
theorem keptV_len (vs : List Int) : (keptV vs).length ≤ vs.length := List.length_filter_le ..
/-- the greatest is kept -/
theorem keptV_last {vs : List Int} {v : Int} : v ∈ keptV (vs ++ [v]) := by
  refine List.mem_filter.mpr ⟨by simp, List.any_eq_true.mpr ⟨0, by simp, decide_eq_true ?_⟩⟩
  have e : mult 0 (vs ++ [v]) = vs ++ [v] := by
    unfold mult
    exact List.filter_eq_self.mpr fun u _ => by simp [Int.emod_one]
  rw [e]
  unfold last2
  rw [List.drop_append_of_le_length (by simp)]
  simp
theorem mult_succ (j : Nat) (vs : List Int) : (mult j vs).filter (fun u => decide (u % 2 ^ (j + 1) = 0)) = mult (j + 1) vs := by
  unfold mult
  rw [List.filter_filter]
  congr 1
  funext u
  have : u % 2 ^ (j + 1) = 0 → u % 2 ^ j = 0 := fun h => by
    have d1 : ((2 : Int) ^ (j + 1)) ∣ u := Int.dvd_of_emod_eq_zero h
    have d2 : ((2 : Int) ^ j) ∣ 2 ^ (j + 1) := ⟨2, by rw [Int.pow_succ]⟩
    exact Int.emod_eq_zero_of_dvd (Int.dvd_trans d2 d1)
  by_cases h : u % 2 ^ (j + 1) = 0
  · simp [h, this h]
  · simp [h]
theorem mult_zero (vs : List Int) : mult 0 vs = vs := by
  unfold mult
  exact List.filter_eq_self.mpr fun u _ => by simp [Int.emod_one]
theorem mult_sub {i j : Nat} (h : i ≤ j) {vs : List Int} {v : Int} (m : v ∈ mult j vs) : v ∈ mult i vs := by
  obtain ⟨m1, m2⟩ := List.mem_filter.mp m
  refine List.mem_filter.mpr ⟨m1, decide_eq_true ?_⟩
  have d1 : ((2 : Int) ^ j) ∣ v := Int.dvd_of_emod_eq_zero (of_decide_eq_true m2)
  have d2 : ((2 : Int) ^ i) ∣ 2 ^ j := by
    obtain ⟨k, rfl⟩ := Nat.exists_eq_add_of_le h
    exact ⟨2 ^ k, by rw [Int.pow_add]⟩
  exact Int.emod_eq_zero_of_dvd (Int.dvd_trans d2 d1)
/-- what is forgotten changes nothing: the kept ones of the kept -/
theorem last2_sub {p : Int → Bool} {l : List Int} (h : ∀ x ∈ last2 l, p x = true) : last2 (l.filter p) = last2 l := by
  have hs : l = l.take (l.length - 2) ++ last2 l := (List.take_append_drop ..).symm
  have e2 : (last2 l).filter p = last2 l := List.filter_eq_self.mpr h
  have e3 : l.filter p = (l.take (l.length - 2)).filter p ++ last2 l := by
    conv => lhs; rw [hs]
    rw [List.filter_append, e2]
  by_cases hl : l.length ≤ 2
  · have : last2 l = l := last2_small hl
    rw [this] at e2
    rw [e2]
  · have l2 : (last2 l).length = 2 := by
      unfold last2
      rw [List.length_drop]
      omega
    rw [e3]
    generalize last2 l = z at l2
    unfold last2
    rw [List.length_append, l2, show ((l.take (l.length - 2)).filter p).length + 2 - 2 = ((l.take (l.length - 2)).filter p).length by omega, List.drop_left]
theorem last2_snoc {l m : List Int} (h : last2 l = last2 m) (x : Int) : last2 (l ++ [x]) = last2 (m ++ [x]) := by
  have key : ∀ l : List Int, last2 (l ++ [x]) = last2 (last2 l ++ [x]) := fun l => by
    unfold last2
    by_cases hl : l.length ≤ 2
    · rw [show l.length - 2 = 0 by omega, List.drop_zero]
    · have l2 : (l.drop (l.length - 2)).length = 2 := by rw [List.length_drop]; omega
      rw [List.length_append, List.length_append, l2]
      simp only [List.length_singleton]
      rw [show 2 + 1 - 2 = 1 by omega, List.drop_append_of_le_length (by omega), List.drop_append_of_le_length (by rw [l2]; omega), List.drop_drop]
      congr 2
      omega
  rw [key l, key m, h]
theorem mult_snoc (j : Nat) (vs : List Int) (v : Int) : mult j (vs ++ [v]) = mult j vs ++ if v % 2 ^ j = 0 then [v] else [] := by
  unfold mult
  rw [List.filter_append]
  congr 1
  by_cases h : v % 2 ^ j = 0 <;> simp [h]
theorem mult_kept {vs : List Int} (hb : ∀ u ∈ vs, Big2 u) (j : Nat) : last2 (mult j (keptV vs)) = last2 (mult j vs) := by
  have e : mult j (keptV vs) = (mult j vs).filter fun v => (List.range 211).any fun j => decide (v ∈ last2 (mult j vs)) := by
    unfold mult keptV
    rw [List.filter_filter, List.filter_filter]
    congr 1
    funext u
    exact Bool.and_comm _ _
  rw [e]
  refine last2_sub fun x hx => ?_
  have : x ∈ keptV vs := (mem_keptV hb).mpr ⟨j, hx⟩
  exact (List.mem_filter.mp this).2
theorem inK_kept {vs : List Int} (hb : ∀ u ∈ vs, Big2 u) {v x : Int} : InK (keptV vs ++ [v]) x ↔ InK (vs ++ [v]) x := by
  have key : ∀ j, last2 (mult j (keptV vs ++ [v])) = last2 (mult j (vs ++ [v])) := fun j => by
    rw [mult_snoc, mult_snoc]
    split
    · exact last2_snoc (mult_kept hb j) v
    · rw [List.append_nil, List.append_nil]
      exact mult_kept hb j
  exact ⟨fun ⟨j, h⟩ => ⟨j, by rw [← key j]; exact h⟩, fun ⟨j, h⟩ => ⟨j, by rw [key j]; exact h⟩⟩
theorem keptV_kept {vs : List Int} {v : Int} (hb : ∀ u ∈ vs, Big2 u) (bv : Big2 v) (pw : (vs ++ [v]).Pairwise (· < ·)) : keptV (keptV vs ++ [v]) = keptV (vs ++ [v]) := by
  have pk : (keptV vs ++ [v]).Pairwise (· < ·) := by
    obtain ⟨a, b, c⟩ := List.pairwise_append.mp pw
    exact List.pairwise_append.mpr ⟨keptV_pw a, b, fun x hx y hy => c x (keptV_sub hx) y hy⟩
  refine mem_eq (keptV_pw pk) (keptV_pw pw) fun x => ?_
  rw [mem_keptV fun u hu => ?_, mem_keptV fun u hu => ?_]
  · exact inK_kept hb
  · rcases List.mem_append.mp hu with z | z
    · exact hb u z
    · rw [List.mem_singleton.mp z]; exact bv
  · rcases List.mem_append.mp hu with z | z
    · exact hb u (keptV_sub z)
    · rw [List.mem_singleton.mp z]; exact bv
/-! ## a memory in the heap -/
structure Mst where
  rows : List (Int × Option Int)
  last : Option Int
abbrev Mst.vs (m : Mst) : List Int := m.rows.map (·.1)
def rowK (r : Int × Option Int) : Key × V := (.inl r.1, optV r.2)
def Mst.new : Mst := ⟨[], none⟩
def Mst.record (m : Mst) (v : Int) (x : Option Int) : Mst := ⟨(m.rows ++ [(v, x)]).filter fun r => decide (r.1 ∈ keptV (m.vs ++ [v])), some v⟩
structure MAt (C : Addr) (H : Hp) (a d : Addr) (m : Mst) : Prop where
  ins : ∃ dx, H a = some (.ins C dx [("known", .ref d), ("last", optV m.last)])
  kn : H d = some (.dK (m.rows.map rowK))
/-- a value that repr can tell -/
def VOk (x : Option Int) : Prop := ∀ i, x = some i → i.natAbs < 10 ^ 100
/-- what always holds of a memory -/
structure MOk (m : Mst) (n : Nat) : Prop where
  pw : m.vs.Pairwise (· < ·)
  big : ∀ u ∈ m.vs, Big2 u
  last : ∀ l, m.last = some l → Big2 l ∧ ∀ u ∈ m.vs, u ≤ l
  none_ : m.last = none → m.rows = []
  len : m.rows.length ≤ n
  vals : ∀ r ∈ m.rows, VOk r.2
theorem MOk.new : MOk .new 0 := ⟨.nil, (fun u h => nomatch h), (fun l e => nomatch e), (fun _ => rfl), Nat.le_refl _, fun _ h => nomatch h⟩
theorem Mst.record_vs {m : Mst} {v : Int} {x : Option Int} : (m.record v x).vs = keptV (m.vs ++ [v]) := by
  show ((m.rows ++ [(v, x)]).filter fun r => decide (r.1 ∈ keptV (m.vs ++ [v]))).map (·.1) = _
  have e : m.vs ++ [v] = (m.rows ++ [(v, x)]).map (·.1) := by rw [List.map_append]; rfl
  have e2 : keptV (m.vs ++ [v]) = (m.vs ++ [v]).filter fun u => decide (u ∈ keptV (m.vs ++ [v])) := by
    rw [List.filter_congr (q := fun v_1 => (List.range 211).any fun j => decide (v_1 ∈ last2 (mult j (m.vs ++ [v])))) fun u hu => ?_]
    · rfl
    · rw [Bool.eq_iff_iff, decide_eq_true_eq]
      exact ⟨fun h => (List.mem_filter.mp h).2, fun h => List.mem_filter.mpr ⟨hu, h⟩⟩
  conv => rhs; rw [e2]
  conv => rhs; arg 2; rw [e]
  rw [List.filter_map]
  rfl
theorem MOk.asc {m : Mst} {n : Nat} (k : MOk m n) {v : Int} (h : ∀ l, m.last = some l → l < v) : (m.vs ++ [v]).Pairwise (· < ·) := by
  refine List.pairwise_append.mpr ⟨k.pw, List.pairwise_singleton .., fun a ha b hb => ?_⟩
  rw [List.mem_singleton.mp hb]
  cases e : m.last with
  | none =>
    have := k.none_ e
    unfold Mst.vs at ha
    rw [this] at ha
    cases ha
  | some l =>
    have := (k.last l e).2 a ha
    have := h l e
    omega
theorem MOk.bigs {m : Mst} {n : Nat} (k : MOk m n) {v : Int} (b : Big2 v) : ∀ u ∈ m.vs ++ [v], Big2 u := fun u hu => by
  rcases List.mem_append.mp hu with z | z
  · exact k.big u z
  · rw [List.mem_singleton.mp z]; exact b
theorem MOk.record {m : Mst} {n : Nat} (k : MOk m n) {v : Int} {x : Option Int} (b : Big2 v) (h : ∀ l, m.last = some l → l < v) (vx : VOk x) : MOk (m.record v x) (n + 1) := by
  refine ⟨?_, ?_, fun l e => ?_, (fun e => nomatch e), ?_, fun r hr => ?_⟩
  · rw [Mst.record_vs]; exact keptV_pw (k.asc h)
  · rw [Mst.record_vs]; exact fun u hu => k.bigs b u (keptV_sub hu)
  · cases e
    refine ⟨b, fun u hu => ?_⟩
    rw [Mst.record_vs] at hu
    rcases List.mem_append.mp (keptV_sub hu) with z | z
    · have := (List.pairwise_append.mp (k.asc h)).2.2 u z v (by simp)
      omega
    · rw [List.mem_singleton.mp z]; exact Int.le_refl _
  · show ((m.rows ++ [(v, x)]).filter _).length ≤ n + 1
    have h1 := List.length_filter_le (fun r => decide (r.1 ∈ keptV (m.vs ++ [v]))) (m.rows ++ [(v, x)])
    have := k.len
    rw [List.length_append, List.length_singleton] at h1
    omega
  · rcases List.mem_append.mp (List.mem_filter.mp hr).1 with z | z
    · exact k.vals r z
    · rw [List.mem_singleton.mp z]; exact vx
theorem MAt.fr {C : Addr} {H H' : Hp} {L : List Addr} {a d : Addr} {m : Mst} (A : MAt C H a d m) (f : Fr L H H') (n1 : a ∉ L) (n2 : d ∉ L) : MAt C H' a d m := by
  obtain ⟨⟨dx, i⟩, k⟩ := A
  exact ⟨⟨dx, f _ _ n1 i⟩, f _ _ n2 k⟩
theorem MAt.ex {C : Addr} {H H' : Hp} {a d : Addr} {m : Mst} (A : MAt C H a d m) (x : Ex H H') : MAt C H' a d m := A.fr (L := []) (.of_ex x) (by simp) (by simp)
theorem valV_row : ∀ {rs : List (Int × Option Int)} {r : Int × Option Int}, (rs.map (·.1)).Pairwise (· < ·) → r ∈ rs → valV (rs.map rowK) (.inl r.1) = some (optV r.2)
  | q :: rs, r, pw, h => by
    rw [List.map_cons] at pw ⊢
    obtain ⟨p1, p2⟩ := List.pairwise_cons.mp pw
    rcases List.mem_cons.mp h with rfl | h
    · exact valV_pos (p := rowK r) (k := .inl r.1) rfl
    · have := p1 r.1 (List.mem_map.mpr ⟨r, h, rfl⟩)
      rw [valV_neg (p := rowK q) fun (e : Sum.inl q.1 = Sum.inl r.1) => by have := Sum.inl.inj e; omega]
      exact valV_row p2 h
theorem valV_norow : ∀ {rs : List (Int × Option Int)} {v : Int}, v ∉ rs.map (·.1) → valV (rs.map rowK) (.inl v) = none
  | [], _, _ => rfl
  | q :: rs, v, h => by
    rw [List.map_cons] at h ⊢
    rw [valV_neg (p := rowK q) fun (e : Sum.inl q.1 = Sum.inl v) => h (by rw [Sum.inl.inj e]; exact List.mem_cons_self ..)]
    exact valV_norow fun z => h (List.mem_cons_of_mem _ z)
theorem putK_new {kvs : List (Key × V)} {k : Key} {x : V} (h : k ∉ kvs.map (·.1)) : putK kvs k x = kvs ++ [(k, x)] := by
  unfold putK
  rw [if_neg]
  intro z
  obtain ⟨kv, hk, e⟩ := List.any_eq_true.mp z
  exact h (List.mem_map.mpr ⟨kv, hk, of_decide_eq_true e⟩)
/-- the keys of a dict of flags -/
def flagK (ks : List Int) : List (Key × V) := ks.map fun k => (.inl k, .bl true)
def addF (ks : List Int) (k : Int) : List Int := if k ∈ ks then ks else ks ++ [k]
theorem putK_flag (ks : List Int) (k : Int) : putK (flagK ks) (.inl k) (.bl true) = flagK (addF ks k) := by
  unfold addF
  by_cases h : k ∈ ks
  · rw [if_pos h]
    unfold putK
    have hany : ((flagK ks).any fun kv => decide (kv.fst = Sum.inl k)) = true := List.any_eq_true.mpr ⟨(Sum.inl k, V.bl true), List.mem_map.mpr ⟨k, h, rfl⟩, by simp⟩
    rw [if_pos hany]
    conv => rhs; rw [← List.map_id (flagK ks)]
    refine List.map_congr_left fun kv hk => ?_
    obtain ⟨u, _, rfl⟩ := List.mem_map.mp hk
    split <;> simp
  · rw [if_neg h, putK_new fun z => h ?_]
    · unfold flagK
      rw [List.map_append]
      rfl
    · obtain ⟨kv, hk, e⟩ := List.mem_map.mp z
      obtain ⟨u, hu, rfl⟩ := List.mem_map.mp hk
      rw [← Sum.inl.inj e]
      exact hu
theorem addF_mem {ks : List Int} {k x : Int} : x ∈ addF ks k ↔ x ∈ ks ∨ x = k := by
  unfold addF
  split
  · rename_i h
    exact ⟨.inl, fun z => z.elim id fun e => e ▸ h⟩
  · simp
theorem addF_nd {ks : List Int} {k : Int} (h : ks.Nodup) : (addF ks k).Nodup := by
  unfold addF
  split
  · exact h
  · rename_i n
    exact List.nodup_append.mpr ⟨h, by simp, fun a ha b hb e => n (by rw [← List.mem_singleton.mp hb, ← e]; exact ha)⟩
theorem valV_flag {ks : List Int} {k : Int} : (valV (flagK ks) (.inl k)).isSome = decide (k ∈ ks) := by
  induction ks with
  | nil => rfl
  | cons q r ih =>
    show (valV ((.inl q, .bl true) :: flagK r) (.inl k)).isSome = _
    by_cases e : q = k
    · subst e
      rw [valV_pos rfl]
      simp
    · rw [valV_neg fun z => e (Sum.inl.inj z), ih, decide_eq_decide, List.mem_cons]
      exact ⟨.inr, fun z => z.elim (fun z => absurd z.symm e) id⟩
section
variable {H : Hp} {Q : VK} {σ : St} {m : Nat} {G : Hp → Prop} {tk elt : RX}
theorem dc_ints {ks : List Int} (gx : Int → V) (pw : ks.Pairwise (· < ·)) (hn : ks.length < 100000) (hG : G H → True) (hg : ∀ H', Ex H H' → G H')
    (turn : ∀ (x : Int) d acc (R : V → V → Hp → Prop), x ∈ ks → H d = none → (∀ H5, Ex (upd H d (.dK acc)) H5 → R (.int x) (gx x) H5) → tk (put (wipe σ [m]) m (.int x)) (upd H d (.dK acc)) (fun z H5 => elt (put (wipe σ [m]) m (.int x)) H5 (fun y H7 => R z y H7) noW) noW)
    (done : ∀ q, H q = none → Q (.ref q) (upd H q (.dK (ks.map fun k => (.inl k, gx k))))) : DcB (ks.map V.int).length G (yAt (ks.map V.int)) (gName m) tY tk elt [m] σ H Q := by
  refine dcB (fun i acc H' => H' = H ∧ acc = (ks.take i).map fun k => (.inl k, gx k)) ⟨rfl, by simp⟩ (fun i acc H' hi p => ?_) (fun i acc H' d hi p nd => ?_) fun acc H' q p nq => ?_
  · obtain ⟨rfl, rfl⟩ := p
    refine ⟨hg _ (Ex.refl _), Nat.lt_of_le_of_lt (m := ks.length) ?_ hn⟩
    rw [List.length_map]
    exact List.length_take_le' i ks
  · obtain ⟨rfl, rfl⟩ := p
    intro x hx
    rw [List.getElem?_map] at hx
    obtain ⟨u, hu, rfl⟩ := Option.map_eq_some_iff.mp hx
    have ht : ks.take (i + 1) = ks.take i ++ [u] := by rw [List.take_succ, hu]; rfl
    refine ⟨wipe_put, fun _ => turn u d _ _ (List.mem_of_getElem? hu) nd fun H5 x5 => ⟨.inl u, H', rfl, nd, x5, rfl, ?_⟩, fun z => nomatch z⟩
    rw [putK_new, ht, List.map_append]
    · rfl
    · rw [List.map_map]
      intro z
      obtain ⟨v, hv, e⟩ := List.mem_map.mp z
      have e : v = u := Sum.inl.inj e
      subst e
      have n2 : (ks.take (i + 1)).Nodup := lt_nodup (pw.sublist (List.take_sublist ..))
      rw [ht] at n2
      exact (List.nodup_append.mp n2).2.2 v hv v (by simp) rfl
  · obtain ⟨rfl, rfl⟩ := p
    rw [List.length_map, List.take_length]
    exact done q nq
end
/-- the rows told -/
def RowsAt (H : Hp) (ts : List Addr) (rs : List (Int × Option Int)) : Prop := Paired (fun (t : Addr) (r : Int × Option Int) => H t = some (.tup [.int r.1, optV r.2])) ts rs
def rowsD (rs : List (Int × Option Int)) : List PyData := rs.map fun r => .tuple [.int r.1, optD r.2]
theorem RowsAt.ex {H H' : Hp} {ts : List Addr} {rs : List (Int × Option Int)} (h : RowsAt H ts rs) (x : Ex H H') : RowsAt H' ts rs := by
  unfold RowsAt at *
  induction h with
  | nil => exact .nil
  | cons h _ ih => exact .cons (x _ _ h) ih
theorem RowsAt.dp {K : PySem.W.Frag} {H : Hp} {ts : List Addr} {rs : List (Int × Option Int)} (h : RowsAt H ts rs) : DpAll K H (ts.map V.ref) (rowsD rs) := by
  unfold RowsAt at h
  induction h with
  | nil => exact .nil
  | cons h _ ih => exact .cons (.tup (.of h) (.cons (.int _) (.cons (dp_opt _) .nil))) ih
theorem RowsAt.len {H : Hp} {ts : List Addr} {rs : List (Int × Option Int)} (h : RowsAt H ts rs) : ts.length = rs.length := by
  unfold RowsAt at h
  induction h with
  | nil => rfl
  | cons h _ ih => simp [ih]
theorem VOk.fits {x : Option Int} (h : VOk x) : fits (optD x) := by
  cases x with
  | none => simp [optD, G.fits]
  | some i =>
    have := h i rfl
    simp only [optD, G.fits]
    omega
theorem rows_fits : ∀ rs : List (Int × Option Int), (∀ r ∈ rs, Big2 r.1 ∧ VOk r.2) → fitsAll (rowsD rs)
  | [], _ => by simp [rowsD, fitsAll]
  | r :: rs, h => by
    have h1 := h r (List.mem_cons_self ..)
    have h2 := rows_fits rs fun q hq => h q (List.mem_cons_of_mem _ hq)
    obtain ⟨a, b⟩ := h1.1
    have e : (2 : Int) ^ 210 = 1645504557321206042154969182557350504982735865633579863348609024 := by decide +kernel
    rw [e] at b
    unfold rowsD at h2 ⊢
    simp only [List.map_cons, fitsAll, fits]
    exact ⟨⟨by omega, h1.2.fits, trivial⟩, h2⟩
theorem rows_bulk : ∀ rs : List (Int × Option Int), PyData.bulkAll (rowsD rs) ≤ 3 * rs.length
  | [] => by simp [rowsD, PyData.bulkAll]
  | r :: rs => by
    have h2 := rows_bulk rs
    unfold rowsD at h2 ⊢
    have : PyData.bulk (optD r.2) = 0 := by cases r.2 <;> simp [optD, PyData.bulk]
    simp only [List.map_cons, PyData.bulkAll, PyData.bulk, List.length_cons, this]
    omega
theorem rows_depth : ∀ rs : List (Int × Option Int), PyData.depthAll (rowsD rs) ≤ 1
  | [] => by simp [rowsD, PyData.depthAll]
  | r :: rs => by
    have h2 := rows_depth rs
    unfold rowsD at h2 ⊢
    have : PyData.depth (optD r.2) = 0 := by cases r.2 <;> simp [optD, PyData.depth]
    simp only [List.map_cons, PyData.depthAll, PyData.depth, this]
    omega
theorem rows_lay : ∀ rs : List (Int × Option Int), PyData.canLayAll0 (rowsD rs) = true
  | [] => by simp [rowsD, PyData.canLayAll0]
  | r :: rs => by
    have h2 := rows_lay rs
    unfold rowsD at h2 ⊢
    have : PyData.canLay0 (optD r.2) = true := by cases r.2 <;> simp [optD, PyData.canLay0]
    simp only [List.map_cons, PyData.canLayAll0, PyData.canLay0, this, h2, Bool.and_self]
theorem shaped_rows (rs : List (Int × Option Int)) : SeqAt.shaped (.list (rowsD rs)) = true := by
  have h2 : PyData.depth (.list (rowsD rs)) ≤ 64 := by
    show PyData.depthAll (rowsD rs) + 1 ≤ 64
    have := rows_depth rs
    omega
  unfold SeqAt.shaped
  rw [decide_eq_true h2]
  show (PyData.canLayAll0 (rowsD rs) && true) = true
  rw [rows_lay]; rfl
theorem vs_fits {vs : List Int} (h : ∀ u ∈ vs, Big2 u) : fitsAll (vs.map PyData.int) := by
  induction vs with
  | nil => simp [fitsAll]
  | cons x r ih =>
    obtain ⟨a, b⟩ := h x (List.mem_cons_self ..)
    have e : (2 : Int) ^ 210 = 1645504557321206042154969182557350504982735865633579863348609024 := by decide +kernel
    rw [e] at b
    simp only [List.map_cons, fitsAll, fits]
    exact ⟨by omega, ih fun u hu => h u (List.mem_cons_of_mem _ hu)⟩
theorem vs_rp {vs : List Int} (h : ∀ u ∈ vs, Big2 u) (hl : vs.length ≤ 1000) : RpOk (.list (vs.map PyData.int)) := by
  refine .mk ?_ ?_ ?_
  · simp only [fits]; exact vs_fits h
  · simp [PyData.bulk, bulk_ints]; omega
  · simp [PyData.depth, depth_ints]
def Mst.text (m : Mst) : Str := ((Str.empty ++ "Memory(versions=") ++ PyData.shown (.list (m.vs.map PyData.int))) ++ ")"
section
variable {H : Hp} {Q : VK} {σ : St} {m : Nat} {G : Hp → Prop} {elt : RX}
/-- a comprehension over any list of things -/
theorem lc_map {α : Type} {tc : RT} {ps : List α} {g : α → V} (f : α → Bool) (gx : α → V) (hn : ps.length < 100000) (hG : G H)
    (turn : ∀ (x : α) d acc (R : Bool → Hp → Prop), x ∈ ps → H d = none → (∀ H5, Ex (upd H d (.lst acc)) H5 → R (f x) H5) → tc (put (wipe σ [m]) m (g x)) (upd H d (.lst acc)) R noW)
    (item : ∀ (x : α) d acc H4 (R : VK), x ∈ ps → f x = true → H d = none → Ex (upd H d (.lst acc)) H4 → (∀ H5, Ex (upd H d (.lst acc)) H5 → R (gx x) H5) → elt (put (wipe σ [m]) m (g x)) H4 R noW)
    (done : ∀ q, H q = none → Q (.ref q) (upd H q (.lst ((ps.filter f).map gx)))) : LcB (ps.map g).length G (yAt (ps.map g)) (gName m) tc elt [m] σ H Q := by
  refine lcB (fun i acc H' => H' = H ∧ acc = ((ps.take i).filter f).map gx) ⟨rfl, by simp⟩ (fun i acc H' hi p => ?_) (fun i acc H' d hi p nd => ?_) fun acc H' q p nq => ?_
  · obtain ⟨rfl, rfl⟩ := p
    refine ⟨hG, ?_⟩
    have h1 := List.length_filter_le f (ps.take i)
    have h2 := List.length_take_le' i ps
    rw [List.length_map]
    omega
  · obtain ⟨rfl, rfl⟩ := p
    intro x hx
    rw [List.getElem?_map] at hx
    obtain ⟨u, hu, rfl⟩ := Option.map_eq_some_iff.mp hx
    have mu := List.mem_of_getElem? hu
    have ht : ps.take (i + 1) = ps.take i ++ [u] := by rw [List.take_succ, hu]; rfl
    refine ⟨wipe_put, turn u d _ _ mu nd fun H5 x5 => ⟨fun hf => item u d _ _ _ mu hf nd x5 fun H6 x6 => ⟨H', nd, x6, rfl, ?_⟩, fun hf => ⟨H', nd, x5, rfl, ?_⟩⟩⟩
    · rw [ht, List.filter_append, List.map_append]
      simp [List.filter, hf]
    · rw [ht, List.filter_append]
      simp [List.filter, hf]
  · obtain ⟨rfl, rfl⟩ := p
    rw [List.length_map, List.take_length]
    exact done q nq
theorem lc_map0 {α : Type} {ps : List α} {g : α → V} (gx : α → V) (hn : ps.length < 100000) (hG : G H)
    (item : ∀ (x : α) d acc (R : VK), x ∈ ps → H d = none → (∀ H5, Ex (upd H d (.lst acc)) H5 → R (gx x) H5) → elt (put (wipe σ [m]) m (g x)) (upd H d (.lst acc)) R noW)
    (done : ∀ q, H q = none → Q (.ref q) (upd H q (.lst (ps.map gx)))) : LcB (ps.map g).length G (yAt (ps.map g)) (gName m) tY elt [m] σ H Q := by
  refine lcB (fun i acc H' => H' = H ∧ acc = (ps.take i).map gx) ⟨rfl, by simp⟩ (fun i acc H' hi p => ?_) (fun i acc H' d hi p nd => ?_) fun acc H' q p nq => ?_
  · obtain ⟨rfl, rfl⟩ := p
    refine ⟨hG, ?_⟩
    have h2 := List.length_take_le' i ps
    rw [List.length_map]
    omega
  · obtain ⟨rfl, rfl⟩ := p
    intro x hx
    rw [List.getElem?_map] at hx
    obtain ⟨u, hu, rfl⟩ := Option.map_eq_some_iff.mp hx
    have mu := List.mem_of_getElem? hu
    have ht : ps.take (i + 1) = ps.take i ++ [u] := by rw [List.take_succ, hu]; rfl
    refine ⟨wipe_put, fun _ => item u d _ _ mu nd fun H6 x6 => ⟨H', nd, x6, rfl, ?_⟩, fun z => nomatch z⟩
    rw [ht, List.map_append]
    rfl
  · obtain ⟨rfl, rfl⟩ := p
    rw [List.length_map, List.take_length]
    exact done q nq
end
/-- rows kept in a list of tuples -/
abbrev RowP := Addr × (Int × Option Int)
def rowV (q : RowP) : V := .ref q.1
def PsAt (H : Hp) (ps : List RowP) : Prop := ∀ q ∈ ps, H q.1 = some (.tup [.int q.2.1, optV q.2.2])
theorem PsAt.ex {H H' : Hp} {ps : List RowP} (h : PsAt H ps) (x : Ex H H') : PsAt H' ps := fun q hq => x _ _ (h q hq)
theorem PsAt.fr {H H' : Hp} {L : List Addr} {ps : List RowP} (h : PsAt H ps) (f : Fr L H H') (hL : ∀ b ∈ L, ∀ xs, H b ≠ some (.tup xs)) : PsAt H' ps := fun q hq => f _ _ (fun z => hL _ z _ (h q hq)) (h q hq)
theorem PsAt.dp {K : PySem.W.Frag} {H : Hp} : ∀ {ps : List RowP}, PsAt H ps → DpAll K H (ps.map rowV) (rowsD (ps.map (·.2)))
  | [], _ => .nil
  | q :: ps, h => .cons (.tup (.of (h q (List.mem_cons_self ..))) (.cons (.int _) (.cons (dp_opt _) .nil))) (PsAt.dp (ps := ps) fun r hr => h r (List.mem_cons_of_mem _ hr))
theorem dp_opts {K : PySem.W.Frag} {H : Hp} : ∀ xs : List (Option Int), DpAll K H (xs.map optV) (xs.map optD)
  | [] => .nil
  | x :: xs => .cons (dp_opt x) (dp_opts xs)
theorem lay_opts : ∀ xs : List (Option Int), PyData.canLayAll0 (xs.map optD) = true ∧ PyData.depthAll (xs.map optD) = 0
  | [] => ⟨rfl, rfl⟩
  | x :: r => by
    have ⟨h1, h2⟩ := lay_opts r
    have a1 : PyData.canLay0 (optD x) = true := by cases x <;> simp [optD, PyData.canLay0]
    have a2 : PyData.depth (optD x) = 0 := by cases x <;> simp [optD, PyData.depth]
    exact ⟨by simp only [List.map_cons, PyData.canLayAll0, a1, h1, Bool.and_self], by simp only [List.map_cons, PyData.depthAll, a2, h2]; rfl⟩
theorem shaped_opts (xs : List (Option Int)) : SeqAt.shaped (.list (xs.map optD)) = true := by
  have ⟨h1, h2⟩ := lay_opts xs
  have h3 : PyData.depth (.list (xs.map optD)) ≤ 64 := by
    show PyData.depthAll (xs.map optD) + 1 ≤ 64
    omega
  unfold SeqAt.shaped
  rw [decide_eq_true h3]
  show (PyData.canLayAll0 (xs.map optD) && true) = true
  rw [h1]; rfl
theorem data_same {d : PyData} (h : SeqAt.shaped d = true) : PyData.eqv d d = true := SeqAt.eqv_refl d (SeqAt.canLay_of_shaped h)
/-- what a memory tells: versions, records, newest, len -/
def Mst.told (m : Mst) : PyData := .list [.list (m.vs.map PyData.int), .list (rowsD m.rows), optD m.last, .int m.rows.length]
theorem Mst.told_rp {m : Mst} {n : Nat} (ok : MOk m n) (hn : n ≤ 1000) : RpOk m.told := by
  have l := ok.len
  have l2 : m.vs.length = m.rows.length := List.length_map ..
  refine .mk ?_ ?_ ?_
  · simp only [Mst.told, fits, fitsAll]
    refine ⟨vs_fits ok.big, rows_fits _ fun r hr => ⟨ok.big r.1 (List.mem_map.mpr ⟨r, hr, rfl⟩), ok.vals r hr⟩, ?_, by omega, trivial⟩
    cases e : m.last with
    | none => simp [optD, fits]
    | some u =>
      have := (ok.last u e).1
      have e : (2 : Int) ^ 210 = 1645504557321206042154969182557350504982735865633579863348609024 := by decide +kernel
      unfold Big2 at this
      rw [e] at this
      simp only [optD, fits]
      omega
  · have := rows_bulk m.rows
    have e : PyData.bulk (optD m.last) = 0 := by cases m.last <;> simp [optD, PyData.bulk]
    simp only [Mst.told, PyData.bulk, PyData.bulkAll, bulk_ints, e, l2, List.length_cons, List.length_nil, List.length_map, rowsD] at *
    omega
  · have := rows_depth m.rows
    have e : PyData.depth (optD m.last) = 0 := by cases m.last <;> simp [optD, PyData.depth]
    simp only [Mst.told, PyData.depth, PyData.depthAll, depth_ints, e]
    omega
theorem empty_app (a : Str) : Str.empty ++ a = a := by
  show Str.mk (#[] ++ a.cps) = a
  rw [Array.empty_append]
/-! ## a comprehension in a comprehension; list(xs) of a list or a tuple -/
def relabS (o sc : Scope) : Scope := { sc with names := sc.names.map fun (n, k) => if (k == .free && o.kind == .function && o.names.lookup n == some .cell) then (n, .cell) else (n, k) }
theorem blk_bx {P : Program} {w : World} {K : PySem.W.Frag} {mg : Str → Option Value} {base : Heap} {N : List Str} {n : Str} {st : Stmt} {f : Addr} {cd : Value} {A : Around} {outer : List Env} {s s2 : Shared} {H H2 : Hp} {E : XK} {sc scope : Scope} {own : List (Str × Nat)} {C : Addr} {cl : List (Str × Addr)} {fp : List Addr}
    (h : blkC N (relabS (defScope st) sc) scope own = true) : blkC ((fx P w K mg base N n st f cd A outer s H E).blk s2 H2 sc (compEnvC sc cl C (fx P w K mg base N n st f cd A outer s H E).env) fp).N ((fx P w K mg base N n st f cd A outer s H E).blk s2 H2 sc (compEnvC sc cl C (fx P w K mg base N n st f cd A outer s H E).env) fp).env.scope scope own = true := h
section
variable {X : Cx}
def cListS (K : PySem.W.Frag) : RC := c1 fun x H Q => ∃ p xs, x = .ref p ∧ (SqL K H p xs ∨ SqT K H p xs) ∧ ∀ q, H q = none → Q (.ref q) (upd H q (.lst xs))
theorem c_listS : SC X (.type "list") (cListS X.K) := sc1 fun x H Q ⟨p, xs, e, h, q⟩ => by
  subst e
  rcases h with h | h
  · exact (cn_listL h).wc q
  · exact (cn_listT h).wc q
/-- xs == [], xs of any things -/
def oEqE (K : PySem.W.Frag) : RO := fun x y H Q => ∃ a b xs, x = .ref a ∧ y = .ref b ∧ SqL K H a xs ∧ SqL K H b [] ∧ Q (.bl xs.isEmpty) H
theorem o_eqE : SOr2 X (compareOp .Eq) (oEqE X.K) := fun hu x y H Q ⟨a, b, xs, ex, ey, h1, h2, q⟩ H1 e pins s σ v u I rx ry => by
  subst ex ey
  obtain rfl : v = Value.ref a := rx
  obtain rfl : u = Value.ref b := ry
  obtain ⟨its, rv, pl, hz⟩ := I.list (e.sqL h1)
  obtain ⟨its2, rv2, pl2, hz2⟩ := I.list (e.sqL h2)
  have e2 : its2 = [] := by cases rv2; rfl
  subst e2
  have l1 := rv.length
  cases xs with
  | nil =>
    have e1 : its = [] := by cases rv; rfl
    subst e1
    exact SeqAt.eq_listAt (e := fun _ => true) pl.isList pl2.isList rfl (by omega) (fun j h1 _ => absurd h1 (by simp)) ⟨.bl _, H1, I, rfl, H, e, q⟩
  | cons y r =>
    have : its.toArray.size = r.length + 1 := by rw [List.size_toArray, ← l1]; rfl
    exact SeqAt.eq_list_lengthsAt pl.isList pl2.isList (by simp [this]) (by omega) ⟨.bl _, H1, I, rfl, H, e, q⟩
end
/-! ## memories in groups -/
abbrev MemP := Addr × Addr × Mst
def memV (q : MemP) : V := .ref q.1
def MsAt (C : Addr) (H : Hp) (ms : List MemP) : Prop := ∀ q ∈ ms, MAt C H q.1 q.2.1 q.2.2 ∧ MOk q.2.2 62
theorem MsAt.ex {C : Addr} {H H' : Hp} {ms : List MemP} (h : MsAt C H ms) (x : Ex H H') : MsAt C H' ms := fun q hq => ⟨(h q hq).1.ex x, (h q hq).2⟩
theorem MsAt.sub {C : Addr} {H : Hp} {ms ls : List MemP} (h : MsAt C H ms) (s : ∀ q ∈ ls, q ∈ ms) : MsAt C H ls := fun q hq => h q (s q hq)
def limOk : Option Int → Int → Bool
  | none, _ => true
  | some l, v => decide (v ≤ l)
def inAll (ms : List Mst) (v : Int) : Bool := ms.all fun m => decide (v ∈ m.vs)
/-- the greatest version that all remember -/
def common (ms : List Mst) (lim : Option Int) : Option Int := match ms with
  | [] => none
  | m :: _ => (m.vs.filter fun v => inAll ms v && limOk lim v).getLast?
theorem common_mem {m : Mst} {r : List Mst} {lim : Option Int} {v : Int} (h : common (m :: r) lim = some v) : v ∈ m.vs ∧ inAll (m :: r) v = true ∧ limOk lim v = true := by
  have := List.mem_of_getLast? h
  obtain ⟨a, b⟩ := List.mem_filter.mp this
  rw [Bool.and_eq_true] at b
  exact ⟨a, b⟩
theorem common_big {C : Addr} {H : Hp} {ms : List MemP} (h : MsAt C H ms) {lim : Option Int} {v : Int} (e : common (ms.map (·.2.2)) lim = some v) : Big2 v := by
  cases ms with
  | nil => cases e
  | cons q r => exact (h q (List.mem_cons_self ..)).2.big v (common_mem e).1
theorem big2_fits {o : Option Int} (h : ∀ v, o = some v → Big2 v) : fits (optD o) := by
  cases o with
  | none => simp [optD, fits]
  | some u =>
    have := h u rfl
    have e : (2 : Int) ^ 210 = 1645504557321206042154969182557350504982735865633579863348609024 := by decide +kernel
    unfold Big2 at this
    rw [e] at this
    simp only [optD, fits]
    omega
theorem last_snoc {P : Int → Bool} {l : List Int} {v : Int} (h : P v = true) : ((l ++ [v]).filter P).getLast? = some v := by
  rw [List.filter_append, List.filter_cons_of_pos h, List.filter_nil, List.getLast?_concat]
theorem last_skip {P : Int → Bool} {l : List Int} {v : Int} (h : P v = false) : ((l ++ [v]).filter P).getLast? = (l.filter P).getLast? := by
  rw [List.filter_append, List.filter_cons_of_neg (by rw [h]; decide), List.filter_nil, List.append_nil]
/-- what a slice of a list of things is -/
theorem cutV_map {α : Type} (f : α → V) (xs : List α) (lo hi : Option Int) : ∃ ys : List α, cutV (xs.map f) lo hi = ys.map f ∧ ∀ y ∈ ys, y ∈ xs := by
  refine ⟨(xs.drop (HT.sIx (xs.map f).length 0 lo)).take (HT.sIx (xs.map f).length (xs.map f).length hi - HT.sIx (xs.map f).length 0 lo), ?_, fun y hy => List.mem_of_mem_drop (List.mem_of_mem_take hy)⟩
  unfold cutV
  rw [List.map_take, List.map_drop]
theorem map_of_each {α : Type} {f : α → V} {P : α → Prop} : ∀ {ys : List V}, (∀ y ∈ ys, ∃ x, y = f x ∧ P x) → ∃ xs : List α, ys = xs.map f ∧ ∀ x ∈ xs, P x
  | [], _ => ⟨[], rfl, fun _ h => nomatch h⟩
  | y :: ys, h => by
    obtain ⟨x, e, p⟩ := h y (List.mem_cons_self ..)
    obtain ⟨xs, e2, p2⟩ := map_of_each (ys := ys) fun z hz => h z (List.mem_cons_of_mem _ hz)
    exact ⟨x :: xs, by rw [e, e2]; rfl, fun z hz => by
      rcases List.mem_cons.mp hz with rfl | hz
      · exact p
      · exact p2 z hz⟩
/-! ## the text of rows can be laid -/
theorem ok_join : ∀ ts : List Str, (∀ t ∈ ts, PyData.strOk t = true) → PyData.strOk (Str.join ", " ts) = true
  | [], _ => by decide +kernel
  | [x], h => h x (List.mem_cons_self ..)
  | x :: y :: r, h => by
    show PyData.strOk (x ++ ", " ++ Str.join ", " (y :: r)) = true
    exact ok_app (ok_app (h x (List.mem_cons_self ..)) (ok_str _)) (ok_join (y :: r) fun t ht => h t (List.mem_cons_of_mem _ ht))
theorem ok_tup {ts : List Str} (h : ∀ t ∈ ts, PyData.strOk t = true) : PyData.strOk (tupleText ts) = true := by
  unfold tupleText
  exact ok_app (ok_app (ok_str _) (ok_join ts h)) (ok_str _)
theorem ok_lst {ts : List Str} (h : ∀ t ∈ ts, PyData.strOk t = true) : PyData.strOk (listText ts) = true := by
  unfold listText
  exact ok_app (ok_from _ _ _ (ok_str _) h) (ok_str _)
theorem ok_rows (rs : List (Int × Option Int)) : PyData.strOk (PyData.shown (.list (rowsD rs))) = true := by
  simp only [PyData.shown]
  refine ok_lst fun t ht => ?_
  induction rs with
  | nil => simp [rowsD, PyData.shownAll] at ht
  | cons r rs ih =>
    unfold rowsD at ht ih
    simp only [List.map_cons, PyData.shownAll, List.mem_cons] at ht
    rcases ht with rfl | ht
    · simp only [PyData.shown]
      refine ok_tup fun t ht => ?_
      simp only [PyData.shownAll, List.mem_cons, List.not_mem_nil, or_false] at ht
      rcases ht with rfl | rfl
      · exact ok_str _
      · cases r.2 <;> exact ok_str _
    · exact ih ht
theorem shaped_strs {xs : List Str} (h : ∀ x ∈ xs, PyData.strOk x = true) : SeqAt.shaped (.list (xs.map PyData.str)) = true := by
  have key : ∀ xs : List Str, (∀ x ∈ xs, PyData.strOk x = true) → PyData.canLayAll0 (xs.map PyData.str) = true ∧ PyData.depthAll (xs.map PyData.str) = 0 := by
    intro xs h
    induction xs with
    | nil => exact ⟨rfl, rfl⟩
    | cons x r ih =>
      obtain ⟨h1, h2⟩ := ih fun z hz => h z (List.mem_cons_of_mem _ hz)
      have a := h x (List.mem_cons_self ..)
      exact ⟨by simp only [List.map_cons, PyData.canLayAll0, PyData.canLay0, a, h1, Bool.and_self], by simp only [List.map_cons, PyData.depthAll, PyData.depth, h2]; rfl⟩
  obtain ⟨h1, h2⟩ := key xs h
  have h3 : PyData.depth (.list (xs.map PyData.str)) ≤ 64 := by
    show PyData.depthAll (xs.map PyData.str) + 1 ≤ 64
    omega
  unfold SeqAt.shaped
  rw [decide_eq_true h3]
  show (PyData.canLayAll0 (xs.map PyData.str) && true) = true
  rw [h1]; rfl
theorem dp_strs {K : PySem.W.Frag} {H : Hp} : ∀ xs : List Str, DpAll K H (xs.map V.str) (xs.map PyData.str)
  | [] => .nil
  | x :: xs => .cons (.str x) (dp_strs xs)
theorem rows_rp {m : Mst} {n : Nat} (ok : MOk m n) (hn : n ≤ 1000) : RpOk (.list (rowsD m.rows)) := by
  have l := ok.len
  refine .mk ?_ ?_ ?_
  · simp only [fits]
    exact rows_fits _ fun r hr => ⟨ok.big r.1 (List.mem_map.mpr ⟨r, hr, rfl⟩), ok.vals r hr⟩
  · have := rows_bulk m.rows
    simp only [PyData.bulk, rowsD, List.length_map] at *
    omega
  · have := rows_depth m.rows
    simp only [PyData.depth]
    omega
/-! ## how many are kept; the last two of a sorted list; the common one -/
theorem kept_few {vs : List Int} {a : Int} {J : Nat} (pw : vs.Pairwise (· < ·)) (hb : ∀ u ∈ vs, Big2 u) (hs : ∀ u ∈ vs, a ≤ u ∧ u < a + 2 ^ J) : (keptV vs).length ≤ 2 * J + 1 := by
  have one : (mult J vs).length ≤ 1 := by
    have hp : (mult J vs).Pairwise (· < ·) := pw.sublist List.filter_sublist
    match h : mult J vs, hp with
    | [], _ => exact Nat.zero_le _
    | [x], _ => exact Nat.le_refl _
    | x :: y :: r, hp =>
      exfalso
      have mx : x ∈ mult J vs := by rw [h]; simp
      have my : y ∈ mult J vs := by rw [h]; simp
      obtain ⟨x1, x2⟩ := List.mem_filter.mp mx
      obtain ⟨y1, y2⟩ := List.mem_filter.mp my
      have xy := (List.pairwise_cons.mp hp).1 y (by simp)
      have sx := hs x x1
      have sy := hs y y1
      have d1 : ((2 : Int) ^ J) ∣ x := Int.dvd_of_emod_eq_zero (of_decide_eq_true x2)
      have d2 : ((2 : Int) ^ J) ∣ y := Int.dvd_of_emod_eq_zero (of_decide_eq_true y2)
      have d3 : ((2 : Int) ^ J) ∣ y - x := Int.dvd_sub d2 d1
      have := Int.le_of_dvd (by omega) d3
      omega
  have key : ∀ n : Nat, ∃ l : List Int, l.length ≤ 2 * n ∧ ∀ j, j < n → ∀ v ∈ last2 (mult j vs), v ∈ l := fun n => by
    induction n with
    | zero => exact ⟨[], Nat.le_refl _, fun j h => absurd h (Nat.not_lt_zero _)⟩
    | succ n ih =>
      obtain ⟨l, h1, h2⟩ := ih
      refine ⟨l ++ last2 (mult n vs), ?_, fun j hj v hv => ?_⟩
      · have := last2_len (mult n vs)
        rw [List.length_append]
        omega
      · by_cases e : j = n
        · subst e; exact List.mem_append_right _ hv
        · exact List.mem_append_left _ (h2 j (by omega) v hv)
  obtain ⟨l, h1, h2⟩ := key J
  have := nodup_len (l := keptV vs) (m := l ++ mult J vs) (lt_nodup (keptV_pw pw)) fun x hx => by
    obtain ⟨j, hj⟩ := (mem_keptV hb).mp hx
    by_cases h : j < J
    · exact List.mem_append_left _ (h2 j h x hj)
    · exact List.mem_append_right _ (mult_sub (show J ≤ j by omega) (last2_mem hj))
  rw [List.length_append] at this
  omega
theorem last2_of {l : List Int} {x : Int} (pw : l.Pairwise (· < ·)) (m : x ∈ l) (h : ∀ u ∈ l, ∀ v ∈ l, x < u → x < v → u = v) : x ∈ last2 l := by
  by_cases hl : l.length ≤ 2
  · rw [last2_small hl]; exact m
  · have e : l = l.take (l.length - 2) ++ last2 l := (List.take_append_drop ..).symm
    have l2 : (last2 l).length = 2 := by
      unfold last2
      rw [List.length_drop]
      omega
    rw [e] at m
    rcases List.mem_append.mp m with z | z
    · exfalso
      match hh : last2 l, l2 with
      | [a, b], _ =>
        rw [hh] at e
        rw [e] at pw
        have p1 := (List.pairwise_append.mp pw).2.2 x z a (by simp)
        have p2 := (List.pairwise_append.mp pw).2.2 x z b (by simp)
        have p3 := (List.pairwise_cons.mp (List.pairwise_append.mp pw).2.1).1 b (by simp)
        have := h a (by rw [e]; simp) b (by rw [e]; simp) p1 p2
        omega
    · exact z
theorem last_max {l : List Int} {v : Int} (pw : l.Pairwise (· < ·)) (m : v ∈ l) (h : ∀ u ∈ l, u ≤ v) : l.getLast? = some v := by
  cases e : l.getLast? with
  | none =>
    rw [List.getLast?_eq_none_iff] at e
    subst e
    cases m
  | some w =>
    have mw := List.mem_of_getLast? e
    have h1 := h w mw
    obtain ⟨d, rfl⟩ := List.getLast?_eq_some_iff.mp e
    rcases List.mem_append.mp m with z | z
    · have := (List.pairwise_append.mp pw).2.2 v z w (by simp)
      omega
    · rw [List.mem_singleton.mp z]
/-- the common one is the greatest that all have -/
theorem common_is {ms : List Mst} {lim : Option Int} {v : Int} (ne : ms ≠ []) (pw : ∀ m ∈ ms, m.vs.Pairwise (· < ·)) (h1 : ∀ m ∈ ms, v ∈ m.vs) (h2 : limOk lim v = true) (h3 : ∀ u, (∀ m ∈ ms, u ∈ m.vs) → limOk lim u = true → u ≤ v) : common ms lim = some v := by
  match ms, ne with
  | m :: r, _ =>
    refine last_max ((pw m (List.mem_cons_self ..)).sublist List.filter_sublist) (List.mem_filter.mpr ⟨h1 m (List.mem_cons_self ..), ?_⟩) fun u hu => ?_
    · rw [h2, Bool.and_true]
      exact List.all_eq_true.mpr fun q hq => decide_eq_true (h1 q hq)
    · obtain ⟨a, b⟩ := List.mem_filter.mp hu
      rw [Bool.and_eq_true] at b
      exact h3 u (fun q hq => of_decide_eq_true (List.all_eq_true.mp b.1 q hq)) b.2

local macro_rules | `(tactic| walk_at "G:heap") => `(tactic| first
  | with_reducible assumption
  | with_reducible exact upd_same
  | ((with_reducible apply SqL.of); walk_at "G:heap")
  | ((with_reducible apply SqT.of); walk_at "G:heap")
  | ((with_reducible apply hp_ne); (focus (with_reducible assumption)); walk_at "G:heap"))
local macro_rules | `(tactic| walk_at "G:ex") => `(tactic| first
  | with_reducible exact Ex.refl _
  | with_reducible assumption
  | ((with_reducible apply Ex.new); (focus (walk_at "G:ex")); with_reducible assumption)
  | ((with_reducible apply exput); (focus (walk_at "G:ex")); walk_at "G:heap"))
local macro_rules | `(tactic| walk_at "G:exb") => `(tactic| first
  | with_reducible exact ExB.refl
  | ((with_reducible apply ExB.set); walk_at "G:exb")
  | ((with_reducible apply ExB.new); (focus (walk_at "G:exb")); with_reducible assumption))
local macro_rules | `(tactic| walk_at "G:ty") => `(tactic| first
  | with_reducible assumption
  | with_reducible exact Ty.int _
  | with_reducible exact Ty.bl _
  | with_reducible exact Ty.str _
  | with_reducible exact Ty.non
  | ((with_reducible apply Ty.lst); (focus (walk_at "G:heap")))
  | ((with_reducible apply Ty.tup); (focus (walk_at "G:heap")))
  | ((with_reducible apply Ty.dct); (focus (walk_at "G:heap"))))
local macro_rules | `(tactic| walk_at "G:tyn") => `(tactic| first | exact .inl rfl | exact .inr (.inl rfl) | exact .inr (.inr (.inl rfl)) | exact .inr (.inr (.inr (.inl rfl))) | exact .inr (.inr (.inr (.inr (.inl rfl)))) | exact .inr (.inr (.inr (.inr (.inr rfl)))))
local macro_rules | `(tactic| walk_at "G:ix") => `(tactic| first | with_reducible assumption | ((with_reducible apply atI_nat); with_reducible assumption) | rfl)
local macro_rules | `(tactic| walk_at "G:side") => `(tactic| first | with_reducible assumption | omega | decide | (simp; done) | (simp; omega))
local macro_rules | `(tactic| walk_at "G:mod") => `(tactic| first | omega | decide)
local macro_rules | `(tactic| walk_at "G:fdiv") => `(tactic| (apply fdiv_ok; (focus (first | omega | decide)); first | omega | decide +kernel))
local macro_rules | `(tactic| walk_at "G:dig") => `(tactic| (apply And.intro; (focus (first | omega | decide +kernel)); first | omega | decide +kernel))
local macro_rules | `(tactic| walk_at "G:mul") => `(tactic| first
  | (apply mul_okL <;> omega)
  | (apply mul_okR <;> omega))
local macro_rules | `(tactic| walk_at "G:pow") => `(tactic| (apply pow_ok <;> omega))
local macro_rules | `(tactic| walk_at "G:shl") => `(tactic| (apply shl_fits <;> omega))
local macro_rules | `(tactic| walk_at "G:dp") => `(tactic| first
  | with_reducible assumption
  | with_reducible exact Dp.non
  | with_reducible exact Dp.bl _
  | with_reducible exact Dp.int _
  | with_reducible exact Dp.str _
  | with_reducible exact DpAll.nil
  | ((with_reducible apply DpAll.cons); (focus (walk_at "G:dp")); walk_at "G:dp")
  | ((with_reducible apply Dp.lst); (focus (walk_at "G:heap")); walk_at "G:dp")
  | ((with_reducible apply Dp.tup); (focus (walk_at "G:heap")); walk_at "G:dp"))
local macro_rules | `(tactic| walk_at "G:rp") => `(tactic| (refine RpOk.mk ?_ ?_ ?_; (focus (simp [fits, fitsAll]; try omega)); (focus (simp [PyData.bulk, PyData.bulkAll]; try omega)); (simp [PyData.depth, PyData.depthAll]; try omega)))
local macro_rules | `(tactic| walk_at "G:vis") => `(tactic| first | exact .inl rfl | exact .inr (.inl rfl) | exact .inr (.inr rfl))
local macro_rules | `(tactic| walk_at "vc") => `(tactic| ((conv => whnf); (try dsimp only)))
def top (i : Nat) : Stmt := PySem.Challenge.pw_sampledversions_k53_whole_common_version.main.body.getD i (.Pass ⟨0, 0, 0, 0⟩)
abbrev s_is_int : Stmt := top 8
theorem sc_is_int : FnScope ["value"] ["value"] (defScope s_is_int) := ⟨rfl, rfl, rfl, by decide +kernel, rfl, by decide +kernel, by decide +kernel⟩
abbrev s_is_version : Stmt := top 9
theorem sc_is_version : FnScope ["value"] ["value"] (defScope s_is_version) := ⟨rfl, rfl, rfl, by decide +kernel, rfl, by decide +kernel, by decide +kernel⟩
abbrev s_want_version : Stmt := top 11
theorem sc_want_version : FnScope ["value"] ["value"] (defScope s_want_version) := ⟨rfl, rfl, rfl, by decide +kernel, rfl, by decide +kernel, by decide +kernel⟩
abbrev s_kept_versions : Stmt := top 14
theorem sc_kept_versions : FnScope ["versions", "found", "power", "left", "version", "more"] ["versions"] (defScope s_kept_versions) := ⟨rfl, rfl, rfl, by decide +kernel, rfl, by decide +kernel, by decide +kernel⟩
abbrev s_common_version : Stmt := top 16
theorem sc_common_version : FnScope ["memories", "at_most", "some", "found", "version", "memory"] ["memories", "at_most"] (defScope s_common_version) := ⟨rfl, rfl, rfl, by decide +kernel, rfl, by decide +kernel, by decide +kernel⟩
abbrev s__law_pot : Stmt := top 18
theorem sc__law_pot : FnScope ["_law_script", "_law_k", "_law_cell"] ["_law_script", "_law_k"] (defScope s__law_pot) := ⟨rfl, rfl, rfl, by decide +kernel, rfl, by decide +kernel, by decide +kernel⟩
abbrev s__law_digit : Stmt := top 19
theorem sc__law_digit : FnScope ["_law_pot_here", "_law_many", "_law_digit_here"] ["_law_pot_here", "_law_many"] (defScope s__law_digit) := ⟨rfl, rfl, rfl, by decide +kernel, rfl, by decide +kernel, by decide +kernel⟩
abbrev s__law_drawn : Stmt := top 20
theorem sc__law_drawn : FnScope ["_law_pot_here", "_law_base", "_law_memory", "_law_here", "_law_turn"] ["_law_pot_here", "_law_base"] (defScope s__law_drawn) := ⟨rfl, rfl, rfl, by decide +kernel, rfl, by decide +kernel, by decide +kernel⟩
abbrev s__law_due : Stmt := top 21
theorem sc__law_due : FnScope ["_law_group", "_law_limit", "_law_found", "_law_one", "_law_memory"] ["_law_group", "_law_limit"] (defScope s__law_due) := ⟨rfl, rfl, rfl, by decide +kernel, rfl, by decide +kernel, by decide +kernel⟩
abbrev s__law_limits : Stmt := top 22
theorem sc__law_limits : FnScope ["_law_pot_here", "_law_group", "_law_some", "_law_memory", "_law_one"] ["_law_pot_here", "_law_group"] (defScope s__law_limits) := ⟨rfl, rfl, rfl, by decide +kernel, rfl, by decide +kernel, by decide +kernel⟩
abbrev s__law_right : Stmt := top 23
theorem sc__law_right : FnScope ["_law_pot_here", "_law_base", "_law_group", "_law_k", "_law_shown", "_law_memory", "_law_some", "_law_due_here", "_law_limit", "_law_told"] ["_law_pot_here"] (defScope s__law_right) := ⟨rfl, rfl, rfl, by decide +kernel, rfl, by decide +kernel, by decide +kernel⟩
abbrev s_law : Stmt := top 24
theorem sc_law : FnScope ["_law_script", "_law_k", "_law_pot_here", "_law_turn"] ["_law_script"] (defScope s_law) := ⟨rfl, rfl, rfl, by decide +kernel, rfl, by decide +kernel, by decide +kernel⟩
abbrev s_Memory___init__ : Stmt := inClass (top 15) 0
theorem sc_Memory___init__ : FnScope ["self"] ["self"] (defScope s_Memory___init__) := ⟨rfl, rfl, rfl, by decide +kernel, rfl, by decide +kernel, by decide +kernel⟩
abbrev s_Memory_record : Stmt := inClass (top 15) 1
theorem sc_Memory_record : FnScope ["self", "version", "value", "values", "one"] ["self", "version", "value"] (defScope s_Memory_record) := ⟨rfl, rfl, rfl, by decide +kernel, rfl, by decide +kernel, by decide +kernel⟩
abbrev s_Memory_versions : Stmt := inClass (top 15) 2
theorem sc_Memory_versions : FnScope ["self"] ["self"] (defScope s_Memory_versions) := ⟨rfl, rfl, rfl, by decide +kernel, rfl, by decide +kernel, by decide +kernel⟩
abbrev s_Memory_records : Stmt := inClass (top 15) 4
theorem sc_Memory_records : FnScope ["self"] ["self"] (defScope s_Memory_records) := ⟨rfl, rfl, rfl, by decide +kernel, rfl, by decide +kernel, by decide +kernel⟩
structure All (K : PySem.W.Frag) (mg : Str → Option Value) where
  is_int : Def K mg "is_int" s_is_int ["value"]
  is_version : Def K mg "is_version" s_is_version ["value"]
  want_version : Def K mg "want_version" s_want_version ["value"]
  kept_versions : Def K mg "kept_versions" s_kept_versions ["versions"]
  common_version : DefK K mg "common_version" s_common_version [("at_most", .non)]
  _law_pot : Def K mg "_law_pot" s__law_pot ["_law_script", "_law_k"]
  _law_digit : Def K mg "_law_digit" s__law_digit ["_law_pot_here", "_law_many"]
  _law_drawn : Def K mg "_law_drawn" s__law_drawn ["_law_pot_here", "_law_base"]
  _law_due : Def K mg "_law_due" s__law_due ["_law_group", "_law_limit"]
  _law_limits : Def K mg "_law_limits" s__law_limits ["_law_pot_here", "_law_group"]
  _law_right : Def K mg "_law_right" s__law_right ["_law_pot_here"]
  law : Def K mg "law" s_law ["_law_script"]
  MOST_KEPT_g : ∃ t, mg "MOST_KEPT" = some (.int 2 t)
  InvalidVersion : Addr
  InvalidVersion_g : mg "InvalidVersion" = some (.ref InvalidVersion)
  InvalidVersion_e : ErrC K mg "InvalidVersion" InvalidVersion
  InvalidNumber : Addr
  InvalidNumber_g : mg "InvalidNumber" = some (.ref InvalidNumber)
  InvalidNumber_e : ErrC K mg "InvalidNumber" InvalidNumber
  Memory : Addr
  Memory_c : Cls K Memory
  Memory_k : MkC K mg "Memory" Memory
  Memory_g : mg "Memory" = some (.ref Memory)
  Memory_is : C8.InsC K Memory
  Memory_n_known : NoAttr K Memory "known"
  Memory_n_last : NoAttr K Memory "last"
  Memory___init__ : DefM K Memory "__init__" "Memory.__init__" s_Memory___init__ ["self"]
  Memory_record : DefM K Memory "record" "Memory.record" s_Memory_record ["self", "version", "value"]
  Memory_versions : DefM K Memory "versions" "Memory.versions" s_Memory_versions ["self"]
  Memory_records : DefM K Memory "records" "Memory.records" s_Memory_records ["self"]
  n_KeyError : mg "KeyError" = none
  n_ValueError : mg "ValueError" = none
  n_abs : mg "abs" = none
  n_all : mg "all" = none
  n_bool : mg "bool" = none
  n_dict : mg "dict" = none
  n_divmod : mg "divmod" = none
  n_int : mg "int" = none
  n_isinstance : mg "isinstance" = none
  n_len : mg "len" = none
  n_list : mg "list" = none
  n_max : mg "max" = none
  n_min : mg "min" = none
  n_range : mg "range" = none
  n_repr : mg "repr" = none
  n_sorted : mg "sorted" = none
  n_tuple : mg "tuple" = none
section
variable {P : Program} {w : World} {K : PySem.W.Frag} {mg : Str → Option Value} {base : Heap}
def sp__law_pot (K : PySem.W.Frag) : Sp := fun vs H Q _ => ∃ (a : Addr) (ns : List Int) (k : Int), vs = [.ref a, .int k] ∧ SqL K H a (ns.map V.int) ∧ 0 ≤ k ∧ k ≤ 100 ∧ ∀ p, H p = none → Q (.ref p) (upd H p (pot p))
theorem ok__law_pot (T : All K mg) : Cal P w K mg base "_law_pot" 1 ["_law_script", "_law_k"] [] (sp__law_pot K) := by
  refine T._law_pot.cal sc__law_pot (fun vs H Q E h => ?_) fun cd A outer s H1 E1 W vs H Q E c o hW h => ?_
  · obtain ⟨_, _, _, rfl, _⟩ := h; rfl
  obtain ⟨a, ns, k, rfl, hs, k0, k1, q⟩ := h
  show WSs _ _ _ [_, _, _] _
  -- _law_cell = _law_script[_law_k] if _law_k < len(_law_script) else 0
  refine wss_cons (ws_set (i := 2) sc__law_pot.nd rfl ?_)
  refine EV.we (v := .int (if h : k < ns.length then ns[k.toNat]'(by omega) else 0)) (ev_if (et_cmp (ev_var (i := 1) rfl (.inl rfl) rfl) (ev_callB T.n_len PySem.boot_len (ea_cons (ev_var (i := 0) rfl (.inl rfl) rfl) ea_nil) (ec_lenL hs)) eo_lt) (fun h => ?_) fun h => ?_) ?_
  · have h : k < ns.length := by simpa using h
    rw [dif_pos h]
    refine (ev_ixL (ev_var (i := 0) rfl (.inl rfl) rfl) (ev_var (i := 1) rfl (.inl rfl) rfl) hs ?_)
    obtain ⟨n, rfl⟩ := Int.eq_ofNat_of_zero_le k0
    exact atI_nat (by simp [show n < ns.length by omega])
  · have h : ¬ k < ns.length := by simpa using h
    rw [dif_neg h]
    exact ev_int
  generalize (if h : k < ns.length then ns[k.toNat]'(by omega) else 0) = z
  show WSs _ _ _ [_, _, _] _
  -- return [max(0, abs(_law_cell) - 10 ** 18), (abs(_law_cell) % 2147483477 + 101 * _law_k + 3) ** 2 % 2147483399 + 1]
  have hm := Int.emod_nonneg (if z < 0 then -z else z) (show (2147483477 : Int) ≠ 0 by decide)
  have hm2 := Int.emod_lt_of_pos (if z < 0 then -z else z) (show (0 : Int) < 2147483477 by decide)
  refine wss_one (ws_retF ?_)
  refine we_pot ?_
  refine EN.we (en_lst (ea_cons (ev_callB T.n_max PyProof.Rows.boot_max (ea_cons ev_int (ea_cons (ev_bin (ev_callB T.n_abs boot_abs (ea_cons (ev_var (i := 2) rfl (.inl rfl) rfl) ea_nil) ec_abs) (ev_bin ev_int ev_int (eo_pow (by walk_at "G:pow"))) eo_sub) ea_nil)) (ec_max rfl)) (ea_cons (ev_bin (ev_bin (ev_bin (ev_bin (ev_bin (ev_bin (ev_callB T.n_abs boot_abs (ea_cons (ev_var (i := 2) rfl (.inl rfl) rfl) ea_nil) ec_abs) ev_int (eo_mod (by walk_at "G:mod"))) (ev_bin ev_int (ev_var (i := 1) rfl (.inl rfl) rfl) (eo_mul (by walk_at "G:mul"))) eo_add) ev_int eo_add) ev_int (eo_pow (by walk_at "G:pow"))) ev_int (eo_mod (by walk_at "G:mod"))) ev_int eo_add) ea_nil)) (lenle rfl)) fun p0 n0 => ?_
  refine ⟨p0, _, _, upd_same, ⟨by split <;> omega, by omega, by omega⟩, _, ?_, q p0 n0⟩
  rw [upd_upd]
  exact Ex.refl _
def sp__law_digit : Sp := fun vs H Q _ => ∃ p m, vs = [.ref p, .int m] ∧ H p = some (pot p) ∧ DigOk m ∧ ∀ d, 0 ≤ d → d < m → Q (.int d) H
theorem ok__law_digit (T : All K mg) : Cal P w K mg base "_law_digit" 1 ["_law_pot_here", "_law_many"] [] sp__law_digit := by
  refine T._law_digit.cal sc__law_digit (fun vs H Q E h => ?_) fun cd A outer s H1 E1 W vs H Q E c o hW h => ?_
  · obtain ⟨_, _, rfl, _⟩ := h; rfl
  obtain ⟨p, m, rfl, hp, hm, q⟩ := h
  show WSs _ _ _ [_, _, _] _
  refine wss_pot hp fun a b ok => ?_
  obtain ⟨a0, b0, b1⟩ := ok
  have q1 : ∀ a, Q (.int (a % m)) H := fun a => q _ (Int.emod_nonneg _ (by have := hm.1; omega)) (Int.emod_lt_of_pos _ hm.1)
  have fin : ∀ (a b : Int), upd (upd H p (.lst [.int a, .int b])) p (pot p) = H := fun a b => by rw [upd_upd, upd_id hp]
  -- if _law_pot_here[0] > 0:
  refine wss_cons (ws_ifE (et_cmp (ev_ixL (ev_var (i := 0) rfl (.inl rfl) rfl) ev_int (by walk_at "G:heap") (by walk_at "G:ix")) ev_int eo_gt) (fun h0 => ?_) (fun h0 => ?_))
  · -- _law_pot_here[0], _law_digit_here = divmod(_law_pot_here[0], _law_many)
    have h0 : 0 < a := by simpa using h0
    refine wss_cons (ws_asg ?_)
    refine we_callB T.n_divmod PyProof.Rows.boot_divmod ?_
    refine EA.wa (ea_cons (ev_ixL (ev_var (i := 0) rfl (.inl rfl) rfl) ev_int (by walk_at "G:heap") (by walk_at "G:ix")) (ea_cons (ev_var (i := 1) rfl (.inl rfl) rfl) ea_nil)) ?_
    refine CN.wc (cn_divmod (dig_div hm)) fun p1 n1 => ?_
    -- target (_law_pot_here[0], _law_digit_here)
    have hp1 : upd (upd H p (.lst [.int a, .int b])) p1 (.tup [.int (a / m), .int (a % m)]) p = some (.lst [.int a, .int b]) := hp_ne n1 upd_same
    refine wg_tup (by walk_at "G:heap") (wgs_cons (wg_ixL (j := 0) (ev_var (i := 0) rfl (.inl rfl) rfl) ev_int hp1 rfl ?_))
    refine wgs_cons (wg_name (i := 2) sc__law_digit.nd rfl (wgs_nil ?_))
    show WSs _ _ _ [_, _, _] _
    -- return _law_digit_here
    refine wss_one (ws_retF (we_pot (EV.we (ev_var (i := 2) rfl (.inl rfl) rfl) ?_)))
    refine pot_end hp ?_ upd_same ⟨Int.ediv_nonneg a0 (Int.le_of_lt hm.1), b0, b1⟩ (q1 a)
    walk_at "G:exb"
  · refine wss_nilF ⟨_, Ex.refl _, ?_⟩
    show WSs _ _ _ [_, _, _] _
    have e1 := Int.emod_nonneg (b * 48271 + 10037) (show (2147483587 : Int) ≠ 0 by decide)
    have e2 := Int.emod_lt_of_pos (b * 48271 + 10037) (show (0 : Int) < 2147483587 by decide)
    -- _law_pot_here[1] = (_law_pot_here[1] * 48271 + 10037) % 2147483587
    refine wss_cons (ws_asg ?_)
    refine EV.we (ev_bin (ev_bin (ev_bin (ev_ixL (ev_var (i := 0) rfl (.inl rfl) rfl) ev_int (by walk_at "G:heap") (by walk_at "G:ix")) ev_int (eo_mul (by walk_at "G:mul"))) ev_int eo_add) ev_int (eo_mod (by walk_at "G:mod"))) ?_
    refine wg_ixL (j := 1) (ev_var (i := 0) rfl (.inl rfl) rfl) ev_int upd_same rfl ?_
    show WSs _ _ _ [_, _, _] _
    -- return _law_pot_here[1] * _law_pot_here[1] % 2147483563 // 5 % _law_many
    generalize (b * 48271 + 10037) % 2147483587 = z at e1 e2 ⊢
    refine wss_one (ws_retF (we_pot (EV.we (ev_bin (ev_bin (ev_bin (ev_bin (ev_ixL (ev_var (i := 0) rfl (.inl rfl) rfl) ev_int (by walk_at "G:heap") (by walk_at "G:ix")) (ev_ixL (ev_var (i := 0) rfl (.inl rfl) rfl) ev_int (by walk_at "G:heap") (by walk_at "G:ix")) (eo_mul (by walk_at "G:mul"))) ev_int (eo_mod (by walk_at "G:mod"))) ev_int (eo_fdiv (by walk_at "G:fdiv"))) (ev_var (i := 1) rfl (.inl rfl) rfl) (eo_mod hm.1)) ?_)))
    refine pot_end hp ?_ upd_same ⟨a0, e1, by omega⟩ (q1 (z * z % 2147483563 / 5))
    walk_at "G:exb"
def t_Memory___init__ (T : All K mg) : RS :=
 zCons (zFld T.Memory "known" (rVar 0) (rDct0))
 (zFld T.Memory "last" (rVar 0) (rC .non))
@[irreducible] def sp_Memory___init__ (T : All K mg) : Sp := rFn 1 ["self"] (t_Memory___init__ T)
theorem fng_Memory___init__ (T : All K mg) : FnG P w K mg base 1 T.Memory___init__.f T.Memory___init__.fd ["self"] (sp_Memory___init__ T) := by
 delta sp_Memory___init__; exact T.Memory___init__.rfng sc_Memory___init__ fun cd A outer s H1 E1 =>
 (z_cons (z_fld T.Memory_c T.Memory_n_known (s_var (i := 0) rfl (.inl rfl)) s_dct0)
 (z_one (z_fld T.Memory_c T.Memory_n_last (s_var (i := 0) rfl (.inl rfl)) s_non)))
theorem ok_Memory___init__ (T : All K mg) : CalM P w K mg base T.Memory "__init__" 1 ["self"] [] (sp_Memory___init__ T) := ⟨_, _, [], fng_Memory___init__ T, T.Memory___init__.mt, T.Memory___init__.b, .nil⟩
def t_is_int (T : All K mg) : RS :=
 zRet (rAnd (rB cIsT (aCons (rVar 0) (aCons (rC (.ty "int")) aNil))) (rNot (rB cIsT (aCons (rVar 0) (aCons (rC (.ty "bool")) aNil)))))
@[irreducible] def sp_is_int (T : All K mg) : Sp := rFn 1 ["value"] (t_is_int T)
theorem ok_is_int (T : All K mg) : Cal P w K mg base "is_int" 1 ["value"] [] (sp_is_int T) := by
 delta sp_is_int; exact T.is_int.rcal sc_is_int fun cd A outer s H1 E1 =>
 (z_one (z_ret (s_and (s_bi c_isT T.n_isinstance PyProof.Rows.boot_isinstance (a_cons (s_var (i := 0) rfl (.inl rfl)) (a_cons (s_ty T.n_int PyProof.Rows.boot_int) a_nil))) (s_one (s_not (s_bi c_isT T.n_isinstance PyProof.Rows.boot_isinstance (a_cons (s_var (i := 0) rfl (.inl rfl)) (a_cons (s_ty T.n_bool PyProof.Rows.boot_bool) a_nil))))))))
def t_is_version (T : All K mg) : RS :=
 zRet (rAnd (rCall (sp_is_int T) [] (aCons (rVar 0) aNil)) (rBin oGe (rVar 0) (rC (.int 0))))
@[irreducible] def sp_is_version (T : All K mg) : Sp := rFn 1 ["value"] (t_is_version T)
theorem ok_is_version (T : All K mg) : Cal P w K mg base "is_version" 2 ["value"] [] (sp_is_version T) := by
 delta sp_is_version; exact T.is_version.rcal sc_is_version fun cd A outer s H1 E1 =>
 (z_one (z_ret (s_and (s_call (ok_is_int T) (a_cons (s_var (i := 0) rfl (.inl rfl)) a_nil)) (s_one (s_cmp o_ge (s_var (i := 0) rfl (.inl rfl)) s_int)))))
def t_want_version (T : All K mg) : RS :=
 zIf (tNot (tV (rCall (sp_is_version T) [] (aCons (rVar 0) aNil))))
 (zRaise T.InvalidVersion (aCons (rC (.str "a version is an integer that is at least 0")) aNil))
 (zNil)
@[irreducible] def sp_want_version (T : All K mg) : Sp := rFn 1 ["value"] (t_want_version T)
theorem ok_want_version (T : All K mg) : Cal P w K mg base "want_version" 3 ["value"] [] (sp_want_version T) := by
 delta sp_want_version; exact T.want_version.rcal sc_want_version fun cd A outer s H1 E1 =>
 (z_one (z_if (b_not (b_val (s_call (ok_is_version T) (a_cons (s_var (i := 0) rfl (.inl rfl)) a_nil))))
 (z_one (z_raise T.InvalidVersion_e (a_cons s_str a_nil)))
 z_nil))
def t_kept_versions (T : All K mg) : RS :=
 zCons (zSet 1 (rDct0))
 (zCons (zSet 2 (rC (.int 1)))
 (zCons (zSet 3 (rVar 0))
 (zCons (zWhile (tCmp (oNeD K) (rVar 3) (rLst (aNil)))
 (zCons (zFor (iL K (rSl (slL K) (rVar 3) (pAt (rNeg (rC (.int 2)))) pNo)) (gName 4)
 (zAsg (rC (.bl true)) (gIxD (rVar 1) (rVar 4))))
 (zCons (zAug 2 oMulI (rC (.int 2)))
 (zCons (zSet 5 (rLc (iL K (rVar 3)) (gName 4) (tCmp oEqI (rBin oMod (rVar 4) (rVar 2)) (rC (.int 0))) (rVar 4) [4]))
 (zCons (zIf (tCmp (oEqD K) (rVar 5) (rLst (aCons (rC (.int 0)) aNil)))
 (zCons (zAsg (rC (.bl true)) (gIxD (rVar 1) (rC (.int 0))))
 (zSet 5 (rLst (aNil))))
 (zNil))
 (zSet 3 (rVar 5)))))))
 (zRet (rB cSortDI (aCons (rVar 1) aNil))))))
@[irreducible] def sp_kept_versions (T : All K mg) : Sp := rFn 1 ["versions", "found", "power", "left", "version", "more"] (t_kept_versions T)
theorem ok_kept_versions (T : All K mg) : Cal P w K mg base "kept_versions" 1 ["versions"] [] (sp_kept_versions T) := by
 delta sp_kept_versions; exact T.kept_versions.rcal sc_kept_versions fun cd A outer s H1 E1 =>
 (z_cons (z_set sc_kept_versions.nd rfl s_dct0)
 (z_cons (z_set sc_kept_versions.nd rfl s_int)
 (z_cons (z_set sc_kept_versions.nd rfl (s_var (i := 0) rfl (.inl rfl)))
 (z_cons (z_while (b_cmpr2 o_neD (s_var (i := 3) rfl (.inl rfl)) (s_lst a_nil))
 (z_cons (z_for (i_L (s_sl l_lst (s_var (i := 3) rfl (.inl rfl)) (p_at (s_neg (s_globE (f := Value.int 2) T.MOST_KEPT_g fun _ => ⟨_, rfl⟩))) p_no)) (g_name sc_kept_versions.nd rfl)
 (z_one (z_asg s_bl (g_ixD (s_var (i := 1) rfl (.inl rfl)) (s_var (i := 4) rfl (.inl rfl))))))
 (z_cons (z_aug i_mul sc_kept_versions.nd rfl s_int)
 (z_cons (z_lc1 (own := [("version", 4)]) (i_L (s_var (i := 3) rfl (.inl rfl))) sc_kept_versions.nd rfl (blk_fx (by decide +kernel)) (fun _ _ _ _ _ => (g_name sc_kept_versions.nd rfl)) (fun _ _ _ _ _ => (b_cmp o_eqI (s_bin o_mod (s_var (i := 4) (by rfl) (by walk_at "G:vis")) (s_var (i := 2) (by rfl) (by walk_at "G:vis"))) s_int)) (fun _ _ _ _ _ => (s_var (i := 4) (by rfl) (by walk_at "G:vis"))))
 (z_cons (z_if (b_cmpr2 o_eqD (s_var (i := 5) rfl (.inl rfl)) (s_lst (a_cons s_int a_nil)))
 (z_cons (z_asg s_bl (g_ixD (s_var (i := 1) rfl (.inl rfl)) s_int))
 (z_one (z_set sc_kept_versions.nd rfl (s_lst a_nil))))
 z_nil)
 (z_one (z_set sc_kept_versions.nd rfl (s_var (i := 5) rfl (.inl rfl)))))))))
 (z_one (z_ret (s_bi c_sortDI T.n_sorted PyProof.Rows.boot_sorted (a_cons (s_var (i := 1) rfl (.inl rfl)) a_nil))))))))
def t_Memory_record (T : All K mg) : RS :=
 zCons (zExpr (rCall (sp_want_version T) [] (aCons (rVar 1) aNil)))
 (zCons (zIf (tAnd (tCmp oIsN (rFld T.Memory "last" (rVar 0)) (rC .non)) (tCmp oLe (rVar 1) (rFld T.Memory "last" (rVar 0))))
 (zNo)
 (zNil))
 (zCons (zIf (tAnd (tCmp oIsN (rVar 2) (rC .non)) (tNot (tV (rCall (sp_is_int T) [] (aCons (rVar 2) aNil)))))
 (zRaise T.InvalidNumber (aCons (rC (.str "an integer or None is required")) aNil))
 (zNil))
 (zCons (zSet 3 (rB cDictD (aCons (rFld T.Memory "known" (rVar 0)) aNil)))
 (zCons (zAsg (rVar 2) (gIxD (rVar 3) (rVar 1)))
 (zCons (zFld T.Memory "known" (rVar 0) (rDc (iL K (rCall (sp_kept_versions T) [] (aCons (rB cSortDI (aCons (rVar 3) aNil)) aNil))) (gName 4) tY (rVar 4) (rDGet (rVar 3) (rVar 4)) [4]))
 (zFld T.Memory "last" (rVar 0) (rVar 1)))))))
@[irreducible] def sp_Memory_record (T : All K mg) : Sp := rFn 3 ["self", "version", "value", "values", "one"] (t_Memory_record T)
theorem fng_Memory_record (T : All K mg) : FnG P w K mg base 4 T.Memory_record.f T.Memory_record.fd ["self", "version", "value"] (sp_Memory_record T) := by
 delta sp_Memory_record; exact T.Memory_record.rfng sc_Memory_record fun cd A outer s H1 E1 =>
 (z_cons (z_expr (s_call (ok_want_version T) (a_cons (s_var (i := 1) rfl (.inl rfl)) a_nil)))
 (z_cons (z_if (b_ww (w_and (b_cmp o_isN (s_fld T.Memory_c T.Memory_n_last (s_var (i := 0) rfl (.inl rfl))) s_non) (w_and1 (b_cmp o_le (s_var (i := 1) rfl (.inl rfl)) (s_fld T.Memory_c T.Memory_n_last (s_var (i := 0) rfl (.inl rfl)))))))
 (z_one z_no)
 z_nil)
 (z_cons (z_if (b_ww (w_and (b_cmp o_isN (s_var (i := 2) rfl (.inl rfl)) s_non) (w_and1 (b_not (b_val (s_call (ok_is_int T) (a_cons (s_var (i := 2) rfl (.inl rfl)) a_nil)))))))
 (z_one (z_raise T.InvalidNumber_e (a_cons s_str a_nil)))
 z_nil)
 (z_cons (z_set sc_Memory_record.nd rfl (s_bt c_dictD T.n_dict PyProof.Rows.boot_dict (a_cons (s_fld T.Memory_c T.Memory_n_known (s_var (i := 0) rfl (.inl rfl))) a_nil)))
 (z_cons (z_asg (s_var (i := 2) rfl (.inl rfl)) (g_ixD (s_var (i := 3) rfl (.inr (.inl rfl))) (s_var (i := 1) rfl (.inl rfl))))
 (z_cons (z_fld T.Memory_c T.Memory_n_known (s_var (i := 0) rfl (.inl rfl)) (s_dc0 (own := [("one", 4)]) (i_L (s_call (ok_kept_versions T) (a_cons (s_bi c_sortDI T.n_sorted PyProof.Rows.boot_sorted (a_cons (s_var (i := 3) rfl (.inr (.inl rfl))) a_nil)) a_nil))) sc_Memory_record.nd (blk_fx (by decide +kernel)) (fun _ _ _ _ _ => (g_name sc_Memory_record.nd rfl)) (fun _ _ _ _ _ => (s_var (i := 4) (by rfl) (by walk_at "G:vis"))) (fun _ _ _ _ _ => (s_dget (s_var (i := 3) (by rfl) (by walk_at "G:vis")) (s_var (i := 4) (by rfl) (by walk_at "G:vis"))))))
 (z_one (z_fld T.Memory_c T.Memory_n_last (s_var (i := 0) rfl (.inl rfl)) (s_var (i := 1) rfl (.inl rfl))))))))))
theorem ok_Memory_record (T : All K mg) : CalM P w K mg base T.Memory "record" 4 ["self", "version", "value"] [] (sp_Memory_record T) := ⟨_, _, [], fng_Memory_record T, T.Memory_record.mt, T.Memory_record.b, .nil⟩
def t__law_drawn (T : All K mg) : RS :=
 zCons (zPar 2 3 (aCons (rMake T.Memory (sp_Memory___init__ T) [] aNil) (aCons (rBin oAdd (rVar 1) (rCall sp__law_digit [] (aCons (rVar 0) (aCons (rC (.int 12)) aNil)))) aNil)))
 (zCons (zFor (iR1 (aCons (rCall sp__law_digit [] (aCons (rVar 0) (aCons (rC (.int 41)) aNil))) aNil)) (gName 4)
 (zCons (zExpr (rMeth T.Memory "record" (sp_Memory_record T) [] (rVar 2) (aCons (rVar 3) (aCons (rCall sp__law_digit [] (aCons (rVar 0) (aCons (rC (.int 9)) aNil))) aNil))))
 (zSet 3 (rBin oAdd (rVar 3) (rBin (oIxL K) (rLst (aCons (rC (.int 1)) (aCons (rC (.int 1)) (aCons (rC (.int 2)) (aCons (rBin oAdd (rC (.int 1)) (rCall sp__law_digit [] (aCons (rVar 0) (aCons (rC (.int 30)) aNil)))) aNil))))) (rCall sp__law_digit [] (aCons (rVar 0) (aCons (rC (.int 4)) aNil))))))))
 (zRet (rVar 2)))
@[irreducible] def sp__law_drawn (T : All K mg) : Sp := rFn 2 ["_law_pot_here", "_law_base", "_law_memory", "_law_here", "_law_turn"] (t__law_drawn T)
theorem ok__law_drawn (T : All K mg) : Cal P w K mg base "_law_drawn" 5 ["_law_pot_here", "_law_base"] [] (sp__law_drawn T) := by
 delta sp__law_drawn; exact T._law_drawn.rcal sc__law_drawn fun cd A outer s H1 E1 =>
 (z_cons (z_par (i := 2) (l := 3) sc__law_drawn.nd rfl rfl (a_cons (s_make0 T.Memory_k (ok_Memory___init__ T)) (a_cons (s_bin o_add (s_var (i := 1) rfl (.inl rfl)) (s_call (ok__law_digit T) (a_cons (s_var (i := 0) rfl (.inl rfl)) (a_cons s_int a_nil)))) a_nil)))
 (z_cons (z_for (i_R1 T.n_range (a_cons (s_call (ok__law_digit T) (a_cons (s_var (i := 0) rfl (.inl rfl)) (a_cons s_int a_nil))) a_nil)) (g_name sc__law_drawn.nd rfl)
 (z_cons (z_expr (s_meth T.Memory_c (ok_Memory_record T) (s_var (i := 2) rfl (.inl rfl)) (a_cons (s_var (i := 3) rfl (.inl rfl)) (a_cons (s_call (ok__law_digit T) (a_cons (s_var (i := 0) rfl (.inl rfl)) (a_cons s_int a_nil))) a_nil))))
 (z_one (z_set sc__law_drawn.nd rfl (s_bin o_add (s_var (i := 3) rfl (.inl rfl)) (s_ix x_lst (s_lst (a_cons s_int (a_cons s_int (a_cons s_int (a_cons (s_bin o_add s_int (s_call (ok__law_digit T) (a_cons (s_var (i := 0) rfl (.inl rfl)) (a_cons s_int a_nil)))) a_nil))))) (s_call (ok__law_digit T) (a_cons (s_var (i := 0) rfl (.inl rfl)) (a_cons s_int a_nil)))))))))
 (z_one (z_ret (s_var (i := 2) rfl (.inl rfl))))))
def t_Memory_versions (T : All K mg) : RS :=
 zRet (rB cListD (aCons (rFld T.Memory "known" (rVar 0)) aNil))
@[irreducible] def sp_Memory_versions (T : All K mg) : Sp := rFn 1 ["self"] (t_Memory_versions T)
theorem fng_Memory_versions (T : All K mg) : FnG P w K mg base 1 T.Memory_versions.f T.Memory_versions.fd ["self"] (sp_Memory_versions T) := by
 delta sp_Memory_versions; exact T.Memory_versions.rfng sc_Memory_versions fun cd A outer s H1 E1 =>
 (z_one (z_ret (s_bt c_listD T.n_list PyProof.Rows.boot_list (a_cons (s_fld T.Memory_c T.Memory_n_known (s_var (i := 0) rfl (.inl rfl))) a_nil))))
theorem ok_Memory_versions (T : All K mg) : CalM P w K mg base T.Memory "versions" 1 ["self"] [] (sp_Memory_versions T) := ⟨_, _, [], fng_Memory_versions T, T.Memory_versions.mt, T.Memory_versions.b, .nil⟩
def t__law_due (T : All K mg) : RS :=
 zCons (zIf (tCmp (oEqE K) (rVar 0) (rLst (aNil)))
 (zRet (rC .non))
 (zNil))
 (zCons (zSet 2 (rC .non))
 (zCons (zFor (iL K (rMeth T.Memory "versions" (sp_Memory_versions T) [] (rBin (oIxL K) (rVar 0) (rC (.int 0))) aNil)) (gName 3)
 (zIf (tAnd (tV (rB (cAll K) (aCons (rLc (iL K (rVar 0)) (gName 4) tY (rBin (oInL K) (rVar 3) (rMeth T.Memory "versions" (sp_Memory_versions T) [] (rVar 4) aNil)) [4]) aNil))) (tOr (tCmp oIs (rVar 1) (rC .non)) (tCmp oLe (rVar 3) (rVar 1))))
 (zSet 2 (rVar 3))
 (zNil)))
 (zRet (rVar 2))))
@[irreducible] def sp__law_due (T : All K mg) : Sp := rFn 2 ["_law_group", "_law_limit", "_law_found", "_law_one", "_law_memory"] (t__law_due T)
theorem ok__law_due (T : All K mg) : Cal P w K mg base "_law_due" 2 ["_law_group", "_law_limit"] [] (sp__law_due T) := by
 delta sp__law_due; exact T._law_due.rcal sc__law_due fun cd A outer s H1 E1 =>
 (z_cons (z_if (b_cmpr2 o_eqE (s_var (i := 0) rfl (.inl rfl)) (s_lst a_nil))
 (z_one (z_ret s_non))
 z_nil)
 (z_cons (z_set sc__law_due.nd rfl s_non)
 (z_cons (z_for (i_L (s_meth0 T.Memory_c (ok_Memory_versions T) (s_ix x_lst (s_var (i := 0) rfl (.inl rfl)) s_int))) (g_name sc__law_due.nd rfl)
 (z_one (z_if (b_ww (w_and (b_val (s_bi c_all T.n_all boot_all (a_cons (s_lc0 (own := [("_law_memory", 4)]) (i_L (s_var (i := 0) rfl (.inl rfl))) sc__law_due.nd (blk_fx (by decide +kernel)) (fun _ _ _ _ _ => (g_name sc__law_due.nd rfl)) (fun _ _ _ _ _ => (s_cmp o_inL (s_var (i := 3) (by rfl) (by walk_at "G:vis")) (s_meth0 T.Memory_c (ok_Memory_versions T) (s_var (i := 4) (by rfl) (by walk_at "G:vis")))))) a_nil))) (w_and1 (b_ww (w_or (b_cmp o_is (s_var (i := 1) rfl (.inl rfl)) s_non) (w_or1 (b_cmp o_le (s_var (i := 3) rfl (.inr (.inl rfl))) (s_var (i := 1) rfl (.inl rfl)))))))))
 (z_one (z_set sc__law_due.nd rfl (s_var (i := 3) rfl (.inr (.inl rfl)))))
 z_nil)))
 (z_one (z_ret (s_var (i := 2) rfl (.inl rfl)))))))
def t__law_limits (T : All K mg) : RS :=
 zCons (zSet 2 (rLst (aCons (rC .non) (aCons (rC (.int 0)) (aCons (rCall sp__law_digit [] (aCons (rVar 0) (aCons (rC (.int 60)) aNil))) (aCons (rBin oSub (rBin oPow (rC (.int 10)) (rC (.int 60))) (rC (.int 1))) aNil))))))
 (zCons (zFor (iL K (rVar 1)) (gName 3)
 (zFor (iL K (rSl (slL K) (rMeth T.Memory "versions" (sp_Memory_versions T) [] (rVar 3) aNil) (pAt (rNeg (rC (.int 4)))) pNo)) (gName 4)
 (zExpr (rExtV 2 (rLst (aCons (rVar 4) (aCons (rBin oAdd (rVar 4) (rC (.int 1))) (aCons (rB cMax (aCons (rC (.int 0)) (aCons (rBin oSub (rVar 4) (rC (.int 1))) aNil))) aNil))))))))
 (zRet (rVar 2)))
@[irreducible] def sp__law_limits (T : All K mg) : Sp := rFn 2 ["_law_pot_here", "_law_group", "_law_some", "_law_memory", "_law_one"] (t__law_limits T)
theorem ok__law_limits (T : All K mg) : Cal P w K mg base "_law_limits" 2 ["_law_pot_here", "_law_group"] [] (sp__law_limits T) := by
 delta sp__law_limits; exact T._law_limits.rcal sc__law_limits fun cd A outer s H1 E1 =>
 (z_cons (z_set sc__law_limits.nd rfl (s_lst (a_cons s_non (a_cons s_int (a_cons (s_call (ok__law_digit T) (a_cons (s_var (i := 0) rfl (.inl rfl)) (a_cons s_int a_nil))) (a_cons (s_bin o_sub (s_bin o_pow s_int s_int) s_int) a_nil))))))
 (z_cons (z_for (i_L (s_var (i := 1) rfl (.inl rfl))) (g_name sc__law_limits.nd rfl)
 (z_one (z_for (i_L (s_sl l_lst (s_meth0 T.Memory_c (ok_Memory_versions T) (s_var (i := 3) rfl (.inl rfl))) (p_at (s_neg s_int)) p_no)) (g_name sc__law_limits.nd rfl)
 (z_one (z_expr (s_extV (i := 2) rfl (.inl rfl) (s_lst (a_cons (s_var (i := 4) rfl (.inl rfl)) (a_cons (s_bin o_add (s_var (i := 4) rfl (.inl rfl)) s_int) (a_cons (s_bi c_max T.n_max PyProof.Rows.boot_max (a_cons s_int (a_cons (s_bin o_sub (s_var (i := 4) rfl (.inl rfl)) s_int) a_nil))) a_nil))))))))))
 (z_one (z_ret (s_var (i := 2) rfl (.inl rfl))))))
def t_Memory_records (T : All K mg) : RS :=
 zRet (rListItems (rFld T.Memory "known" (rVar 0)))
@[irreducible] def sp_Memory_records (T : All K mg) : Sp := rFn 1 ["self"] (t_Memory_records T)
theorem fng_Memory_records (T : All K mg) : FnG P w K mg base 1 T.Memory_records.f T.Memory_records.fd ["self"] (sp_Memory_records T) := by
 delta sp_Memory_records; exact T.Memory_records.rfng sc_Memory_records fun cd A outer s H1 E1 =>
 (z_one (z_ret (s_listItems T.n_list (s_fld T.Memory_c T.Memory_n_known (s_var (i := 0) rfl (.inl rfl))))))
theorem ok_Memory_records (T : All K mg) : CalM P w K mg base T.Memory "records" 1 ["self"] [] (sp_Memory_records T) := ⟨_, _, [], fng_Memory_records T, T.Memory_records.mt, T.Memory_records.b, .nil⟩
def t_common_version (T : All K mg) : RS :=
 zCons (zIf (tCmp oIsN (rVar 1) (rC .non))
 (zExpr (rCall (sp_want_version T) [] (aCons (rVar 1) aNil)))
 (zNil))
 (zCons (zSet 2 (rB (cListS K) (aCons (rVar 0) aNil)))
 (zCons (zIf (tCmp (oEqE K) (rVar 2) (rLst (aNil)))
 (zRet (rC .non))
 (zNil))
 (zCons (zSet 3 (rC .non))
 (zCons (zFor (iL K (rMeth T.Memory "versions" (sp_Memory_versions T) [] (rBin (oIxL K) (rVar 2) (rC (.int 0))) aNil)) (gName 4)
 (zIf (tAnd (tV (rB (cAll K) (aCons (rLc (iL K (rVar 2)) (gName 5) tY (rBin (oInL K) (rVar 4) (rMeth T.Memory "versions" (sp_Memory_versions T) [] (rVar 5) aNil)) [5]) aNil))) (tOr (tCmp oIs (rVar 1) (rC .non)) (tCmp oLe (rVar 4) (rVar 1))))
 (zSet 3 (rVar 4))
 (zNil)))
 (zRet (rVar 3))))))
@[irreducible] def sp_common_version (T : All K mg) : Sp := rFn 2 ["memories", "at_most", "some", "found", "version", "memory"] (t_common_version T)
theorem fng_common_version (T : All K mg) : FnG P w K mg base 4 T.common_version.f T.common_version.fd ["memories", "at_most"] (sp_common_version T) := by
 delta sp_common_version; exact T.common_version.rfng sc_common_version fun cd A outer s H1 E1 =>
 (z_cons (z_if (b_cmp o_isN (s_var (i := 1) rfl (.inl rfl)) s_non)
 (z_one (z_expr (s_call (ok_want_version T) (a_cons (s_var (i := 1) rfl (.inl rfl)) a_nil))))
 z_nil)
 (z_cons (z_set sc_common_version.nd rfl (s_bt c_listS T.n_list PyProof.Rows.boot_list (a_cons (s_var (i := 0) rfl (.inl rfl)) a_nil)))
 (z_cons (z_if (b_cmpr2 o_eqE (s_var (i := 2) rfl (.inl rfl)) (s_lst a_nil))
 (z_one (z_ret s_non))
 z_nil)
 (z_cons (z_set sc_common_version.nd rfl s_non)
 (z_cons (z_for (i_L (s_meth0 T.Memory_c (ok_Memory_versions T) (s_ix x_lst (s_var (i := 2) rfl (.inl rfl)) s_int))) (g_name sc_common_version.nd rfl)
 (z_one (z_if (b_ww (w_and (b_val (s_bi c_all T.n_all boot_all (a_cons (s_lc0 (own := [("memory", 5)]) (i_L (s_var (i := 2) rfl (.inl rfl))) sc_common_version.nd (blk_fx (by decide +kernel)) (fun _ _ _ _ _ => (g_name sc_common_version.nd rfl)) (fun _ _ _ _ _ => (s_cmp o_inL (s_var (i := 4) (by rfl) (by walk_at "G:vis")) (s_meth0 T.Memory_c (ok_Memory_versions T) (s_var (i := 5) (by rfl) (by walk_at "G:vis")))))) a_nil))) (w_and1 (b_ww (w_or (b_cmp o_is (s_var (i := 1) rfl (.inl rfl)) s_non) (w_or1 (b_cmp o_le (s_var (i := 4) rfl (.inr (.inl rfl))) (s_var (i := 1) rfl (.inl rfl)))))))))
 (z_one (z_set sc_common_version.nd rfl (s_var (i := 4) rfl (.inr (.inl rfl)))))
 z_nil)))
 (z_one (z_ret (s_var (i := 3) rfl (.inl rfl)))))))))
theorem kw_common_version_0_memories (T : All K mg) : CalK P w K mg base "common_version" 4 0 ["memories"] (fun vs zs => reo [1, 0] vs ([.non] ++ zs)) (sp_common_version T) :=
  T.common_version.calK (ps := ["memories", "at_most"]) (fng_common_version T) 0 ["memories"] [("at_most", .non)] (fun a b c => reo [1, 0] a (b ++ c)) (fun z => nomatch z) (by intro q hq; simp only [List.mem_cons, List.not_mem_nil, or_false] at hq ⊢; rcases hq with rfl <;> simp) (fun a b c => reo_vals _ a (b.append c)) fun D doc pm an cdv ct us mv ws l1 l2 l3 => match us, mv, ws, l1, l2, l3 with
    | [], [_], [_], _, _, _ => ⟨_, _, _, _, _, _, rfl, rfl, rfl⟩
theorem c0_common_version (T : All K mg) : Cal P w K mg base "common_version" 4 ["memories", "at_most"] [.non] (sp_common_version T) :=
  T.common_version.cal0 (fng_common_version T) 1 (fun z => nomatch z) rfl fun D doc pm an cdv ct us ks l1 l2 => match us, ks, l1, l2 with
    | [_], [_], _, _ => ⟨_, _, _, _, _, _, rfl, rfl, rfl⟩
theorem kw_common_version_0_at_most_memories (T : All K mg) : CalK P w K mg base "common_version" 4 0 ["at_most", "memories"] (reo [1, 0]) (sp_common_version T) :=
  T.common_version.calK (ps := ["memories", "at_most"]) (fng_common_version T) 0 ["at_most", "memories"] [] (fun a b c => reo [1, 0] a (b ++ c)) (fun z => nomatch z) (fun _ z => nomatch z) (fun a b c => reo_vals _ a (b.append c)) fun D doc pm an cdv ct us mv ws l1 l2 l3 => match us, mv, ws, l1, l2, l3 with
    | [], [], [_, _], _, _, _ => rfl
theorem kw_common_version_1_at_most (T : All K mg) : CalK P w K mg base "common_version" 4 1 ["at_most"] (reo [0, 1]) (sp_common_version T) :=
  T.common_version.calK (ps := ["memories", "at_most"]) (fng_common_version T) 1 ["at_most"] [] (fun a b c => reo [0, 1] a (b ++ c)) (fun z => nomatch z) (fun _ z => nomatch z) (fun a b c => reo_vals _ a (b.append c)) fun D doc pm an cdv ct us mv ws l1 l2 l3 => match us, mv, ws, l1, l2, l3 with
    | [_], [], [_], _, _, _ => rfl
def t__law_right (T : All K mg) : RS :=
 zCons (zSet 1 (rBin (oIxL K) (rLst (aCons (rC (.int 0)) (aCons (rC (.int 0)) (aCons (rBin oShl (rC (.int 1)) (rCall sp__law_digit [] (aCons (rVar 0) (aCons (rC (.int 190)) aNil)))) (aCons (rCall sp__law_digit [] (aCons (rVar 0) (aCons (rBin oPow (rC (.int 10)) (rC (.int 58))) aNil))) aNil))))) (rCall sp__law_digit [] (aCons (rVar 0) (aCons (rC (.int 4)) aNil)))))
 (zCons (zSet 2 (rLc (iR1 (aCons (rBin oAdd (rC (.int 1)) (rCall sp__law_digit [] (aCons (rVar 0) (aCons (rC (.int 5)) aNil)))) aNil)) (gName 3) tY (rCall (sp__law_drawn T) [] (aCons (rVar 0) (aCons (rVar 1) aNil))) [3]))
 (zCons (zIf (tCmp oEqI (rCall sp__law_digit [] (aCons (rVar 0) (aCons (rC (.int 3)) aNil))) (rC (.int 0)))
 (zExpr (rAppV 2 (rBin (oIxL K) (rVar 2) (rC (.int 0)))))
 (zNil))
 (zCons (zSet 4 (rLc (iL K (rVar 2)) (gName 5) tY (rB (cRepr K) (aCons (rMeth T.Memory "records" (sp_Memory_records T) [] (rVar 5) aNil) aNil)) [5]))
 (zCons (zFor (iL K (rLst (aCons (rVar 2) (aCons (rB (cTupL K) (aCons (rVar 2) aNil)) (aCons (rSl (slL K) (rVar 2) pNo (pAt (rC (.int 2)))) (aCons (rRev K (rVar 2) (rNeg (rC (.int 1)))) (aCons (rSl (slL K) (rVar 2) pNo (pAt (rC (.int 1)))) (aCons (rLst (aNil)) aNil)))))))) (gName 6)
 (zCons (zSet 7 (rCall (sp__law_due T) [] (aCons (rB (cListS K) (aCons (rVar 6) aNil)) (aCons (rC .non) aNil))))
 (zCons (zIf (tCmp oNeS (rB (cRepr K) (aCons (rLst (aCons (rCall (sp_common_version T) [.non] (aCons (rVar 6) aNil)) (aCons (rCallN (sp_common_version T) 0 1 (fun vs zs => reo [1, 0] vs ([.non] ++ zs)) aNil (aCons (rVar 6) aNil)) aNil))) aNil)) (rB (cRepr K) (aCons (rLst (aCons (rVar 7) (aCons (rVar 7) aNil))) aNil)))
 (zRet (rC (.bl false)))
 (zNil))
 (zFor (iL K (rCall (sp__law_limits T) [] (aCons (rVar 0) (aCons (rVar 2) aNil)))) (gName 8)
 (zCons (zSet 7 (rCall (sp__law_due T) [] (aCons (rB (cListS K) (aCons (rVar 6) aNil)) (aCons (rVar 8) aNil))))
 (zCons (zSet 9 (rLst (aCons (rCallN (sp_common_version T) 1 1 (reo [0, 1]) (aCons (rVar 6) aNil) (aCons (rVar 8) aNil)) (aCons (rCallN (sp_common_version T) 0 2 (reo [1, 0]) aNil (aCons (rVar 8) (aCons (rVar 6) aNil))) aNil))))
 (zIf (tCmp oNeS (rB (cRepr K) (aCons (rVar 9) aNil)) (rB (cRepr K) (aCons (rLst (aCons (rVar 7) (aCons (rVar 7) aNil))) aNil)))
 (zRet (rC (.bl false)))
 (zNil))))))))
 (zRet (rBin (oEqD K) (rLc (iL K (rVar 2)) (gName 5) tY (rB (cRepr K) (aCons (rMeth T.Memory "records" (sp_Memory_records T) [] (rVar 5) aNil) aNil)) [5]) (rVar 4)))))))
@[irreducible] def sp__law_right (T : All K mg) : Sp := rFn 1 ["_law_pot_here", "_law_base", "_law_group", "_law_k", "_law_shown", "_law_memory", "_law_some", "_law_due_here", "_law_limit", "_law_told"] (t__law_right T)
theorem ok__law_right (T : All K mg) : Cal P w K mg base "_law_right" 6 ["_law_pot_here"] [] (sp__law_right T) := by
 delta sp__law_right; exact T._law_right.rcal sc__law_right fun cd A outer s H1 E1 =>
 (z_cons (z_set sc__law_right.nd rfl (s_ix x_lst (s_lst (a_cons s_int (a_cons s_int (a_cons (s_bin o_shl s_int (s_call (ok__law_digit T) (a_cons (s_var (i := 0) rfl (.inr (.inl rfl))) (a_cons s_int a_nil)))) (a_cons (s_call (ok__law_digit T) (a_cons (s_var (i := 0) rfl (.inr (.inl rfl))) (a_cons (s_bin o_pow s_int s_int) a_nil))) a_nil))))) (s_call (ok__law_digit T) (a_cons (s_var (i := 0) rfl (.inr (.inl rfl))) (a_cons s_int a_nil)))))
 (z_cons (z_lc0 (own := [("_law_k", 3)]) (i_R1 T.n_range (a_cons (s_bin o_add s_int (s_call (ok__law_digit T) (a_cons (s_var (i := 0) rfl (.inr (.inl rfl))) (a_cons s_int a_nil)))) a_nil)) sc__law_right.nd rfl (blk_fx (by decide +kernel)) (fun _ _ _ _ _ => (g_name sc__law_right.nd rfl)) (fun _ _ _ _ _ => (s_call (ok__law_drawn T) (a_cons (s_var (i := 0) (by rfl) (by walk_at "G:vis")) (a_cons (s_var (i := 1) (by rfl) (by walk_at "G:vis")) a_nil)))))
 (z_cons (z_if (b_cmp o_eqI (s_call (ok__law_digit T) (a_cons (s_var (i := 0) rfl (.inr (.inl rfl))) (a_cons s_int a_nil))) s_int)
 (z_one (z_expr (s_appV (i := 2) rfl (.inl rfl) (s_ix x_lst (s_var (i := 2) rfl (.inl rfl)) s_int))))
 z_nil)
 (z_cons (z_lc0 (own := [("_law_memory", 5)]) (i_L (s_var (i := 2) rfl (.inl rfl))) sc__law_right.nd rfl (blk_fx (by decide +kernel)) (fun _ _ _ _ _ => (g_name sc__law_right.nd rfl)) (fun _ _ _ _ _ => (s_repr T.n_repr (a_cons (s_meth0 T.Memory_c (ok_Memory_records T) (s_var (i := 5) (by rfl) (by walk_at "G:vis"))) a_nil))))
 (z_cons (z_for (i_L (s_lst (a_cons (s_var (i := 2) rfl (.inl rfl)) (a_cons (s_bt c_tupL T.n_tuple PyProof.Rows.boot_tuple (a_cons (s_var (i := 2) rfl (.inl rfl)) a_nil)) (a_cons (s_sl l_lst (s_var (i := 2) rfl (.inl rfl)) p_no (p_at s_int)) (a_cons (s_rev (s_var (i := 2) rfl (.inl rfl)) (s_neg s_int)) (a_cons (s_sl l_lst (s_var (i := 2) rfl (.inl rfl)) p_no (p_at s_int)) (a_cons (s_lst a_nil) a_nil)))))))) (g_name sc__law_right.nd rfl)
 (z_cons (z_set sc__law_right.nd rfl (s_call (ok__law_due T) (a_cons (s_bt c_listS T.n_list PyProof.Rows.boot_list (a_cons (s_var (i := 6) rfl (.inl rfl)) a_nil)) (a_cons s_non a_nil))))
 (z_cons (z_if (b_cmp o_neS (s_repr T.n_repr (a_cons (s_lst (a_cons (s_call (c0_common_version T) (a_cons (s_var (i := 6) rfl (.inl rfl)) a_nil)) (a_cons (s_callK0 (kw_common_version_0_memories T) (k_cons (s_var (i := 6) rfl (.inl rfl)) k_nil)) a_nil))) a_nil)) (s_repr T.n_repr (a_cons (s_lst (a_cons (s_var (i := 7) rfl (.inl rfl)) (a_cons (s_var (i := 7) rfl (.inl rfl)) a_nil))) a_nil)))
 (z_one (z_ret s_bl))
 z_nil)
 (z_one (z_for (i_L (s_call (ok__law_limits T) (a_cons (s_var (i := 0) rfl (.inr (.inl rfl))) (a_cons (s_var (i := 2) rfl (.inl rfl)) a_nil)))) (g_name sc__law_right.nd rfl)
 (z_cons (z_set sc__law_right.nd rfl (s_call (ok__law_due T) (a_cons (s_bt c_listS T.n_list PyProof.Rows.boot_list (a_cons (s_var (i := 6) rfl (.inl rfl)) a_nil)) (a_cons (s_var (i := 8) rfl (.inl rfl)) a_nil))))
 (z_cons (z_set sc__law_right.nd rfl (s_lst (a_cons (s_callK (kw_common_version_1_at_most T) (a_cons (s_var (i := 6) rfl (.inl rfl)) a_nil) (k_cons (s_var (i := 8) rfl (.inl rfl)) k_nil)) (a_cons (s_callK0 (kw_common_version_0_at_most_memories T) (k_cons (s_var (i := 8) rfl (.inl rfl)) (k_cons (s_var (i := 6) rfl (.inl rfl)) k_nil))) a_nil))))
 (z_one (z_if (b_cmp o_neS (s_repr T.n_repr (a_cons (s_var (i := 9) rfl (.inl rfl)) a_nil)) (s_repr T.n_repr (a_cons (s_lst (a_cons (s_var (i := 7) rfl (.inl rfl)) (a_cons (s_var (i := 7) rfl (.inl rfl)) a_nil))) a_nil)))
 (z_one (z_ret s_bl))
 z_nil)))))))))
 (z_one (z_ret (s_cmpr2 o_eqD (s_lc0 (own := [("_law_memory", 5)]) (i_L (s_var (i := 2) rfl (.inl rfl))) sc__law_right.nd (blk_fx (by decide +kernel)) (fun _ _ _ _ _ => (g_name sc__law_right.nd rfl)) (fun _ _ _ _ _ => (s_repr T.n_repr (a_cons (s_meth0 T.Memory_c (ok_Memory_records T) (s_var (i := 5) (by rfl) (by walk_at "G:vis"))) a_nil)))) (s_var (i := 4) rfl (.inl rfl))))))))))
def t_law (T : All K mg) : RS :=
 zCons (zFor (iR1 (aCons (rB cMax (aCons (rC (.int 1)) (aCons (rB cMin (aCons (rC (.int 5)) (aCons (rB (cLenL K) (aCons (rVar 0) aNil)) aNil))) aNil))) aNil)) (gName 1)
 (zCons (zSet 2 (rCall (sp__law_pot K) [] (aCons (rVar 0) (aCons (rVar 1) aNil))))
 (zIf (tNot (tV (rB (cAll K) (aCons (rLc (iR1 (aCons (rC (.int 2)) aNil)) (gName 3) tY (rCall (sp__law_right T) [] (aCons (rVar 2) aNil)) [3]) aNil))))
 (zRet (rC (.bl false)))
 (zNil))))
 (zRet (rC (.bl true)))
@[irreducible] def sp_law (T : All K mg) : Sp := rFn 1 ["_law_script", "_law_k", "_law_pot_here", "_law_turn"] (t_law T)
theorem ok_law (T : All K mg) : FnG P w K mg base 7 T.law.f T.law.fd ["_law_script"] (sp_law T) := by
 delta sp_law; exact T.law.rfng sc_law fun cd A outer s H1 E1 =>
 (z_cons (z_for (i_R1 T.n_range (a_cons (s_bi c_max T.n_max PyProof.Rows.boot_max (a_cons s_int (a_cons (s_bi c_min T.n_min PyProof.Rows.boot_min (a_cons s_int (a_cons (s_bi c_lenL T.n_len PySem.boot_len (a_cons (s_var (i := 0) rfl (.inl rfl)) a_nil)) a_nil))) a_nil))) a_nil)) (g_name sc_law.nd rfl)
 (z_cons (z_set sc_law.nd rfl (s_call (ok__law_pot T) (a_cons (s_var (i := 0) rfl (.inl rfl)) (a_cons (s_var (i := 1) rfl (.inl rfl)) a_nil))))
 (z_one (z_if (b_not (b_val (s_bi c_all T.n_all boot_all (a_cons (s_lc0 (own := [("_law_turn", 3)]) (i_R1 T.n_range (a_cons s_int a_nil)) sc_law.nd (blk_fx (by decide +kernel)) (fun _ _ _ _ _ => (g_name sc_law.nd rfl)) (fun _ _ _ _ _ => (s_call (ok__law_right T) (a_cons (s_var (i := 2) (by rfl) (by walk_at "G:vis")) a_nil)))) a_nil))))
 (z_one (z_ret s_bl))
 z_nil))))
 (z_one (z_ret s_bl)))
end

section
variable {P : Program} {w : World} {K : PySem.W.Frag} {mg : Str → Option Value} {base : Heap}
theorem Memory_init_ok (T : All K mg) {x dx : Addr} {H : Hp} {Q : VK} {E : XK} (hx : H x = some (.ins T.Memory dx []))
    (q : ∀ d H', Fr [x] H H' → H d = none → MAt T.Memory H' x d .new → Q .non H') : sp_Memory___init__ T [.ref x] H Q E := by
  unfold sp_Memory___init__
  refine ⟨rfl, ?_⟩
  walk_at "vc"
  intro d nd
  have n1 : x ≠ d := ne_of_none hx nd
  refine ⟨x, dx, [], rfl, by rw [upd_ne n1]; exact hx, by decide, ?_⟩
  walk_at "vc"
  refine ⟨x, dx, _, rfl, upd_same, Nat.le_of_ble_eq_true rfl, ?_⟩
  rw [upd_upd]
  refine fg.i (q d _ ((Fr.of_ex (Ex.put nd)).upd (.inl (by simp))) nd ⟨⟨dx, upd_same⟩, ?_⟩)
  rw [upd_ne n1.symm]
  exact upd_same
theorem is_int_ok (T : All K mg) {v : V} {H : Hp} {Q : VK} {E : XK} {C : String} (ht : Ty H v C) (q : Q (.bl (isInt v)) H) : sp_is_int T [v] H Q E := by
  unfold sp_is_int
  refine ⟨rfl, ?_⟩
  walk_at "vc"
  refine ⟨_, _, ht, rfl, .inl rfl, ?_⟩
  walk_at "vc"
  have e := ht.int_is
  refine ⟨fun h => ?_, fun h => ?_⟩
  · walk_at "vc"
    refine ⟨_, _, ht, rfl, .inr (.inl rfl), ?_⟩
    rw [h, Bool.true_and] at e
    exact fg.i (by rw [e]; exact q)
  · rw [h, Bool.false_and] at e
    exact fg.i (by rw [e]; exact q)
theorem is_version_ok (T : All K mg) {v : V} {H : Hp} {Q : VK} {E : XK} {C : String} (ht : Ty H v C) (q : Q (.bl (numAt 0 v)) H) : sp_is_version T [v] H Q E := by
  unfold sp_is_version
  refine ⟨rfl, ?_⟩
  walk_at "vc"
  refine is_int_ok T ht ?_
  walk_at "vc"
  refine ⟨fun h => ?_, fun h => ?_⟩
  · cases v <;> first | cases h | skip
    walk_at "vc"
    exact fg.i q
  · refine fg.i ?_
    cases v <;> first | exact q | cases h
theorem want_version_ok (T : All K mg) {v : V} {H : Hp} {Q : VK} {E : XK} {C : String} (ht : Ty H v C) (q : numAt 0 v = true → Q .non H) (qe : numAt 0 v = false → E (.ref T.InvalidVersion) none H) : sp_want_version T [v] H Q E := by
  unfold sp_want_version
  refine ⟨rfl, ?_⟩
  walk_at "vc"
  refine is_version_ok T ht ?_
  walk_at "vc"
  refine ⟨fun h => ⟨by decide, qe (by simpa using h)⟩, fun h => fg.i (q (by simpa using h))⟩
theorem want_version_int (T : All K mg) {n : Int} (h : 0 ≤ n) {H : Hp} {Q : VK} {E : XK} (q : Q .non H) : sp_want_version T [.int n] H Q E :=
  want_version_ok T (.int n) (fun _ => q) fun z => (numAt_bad h z).elim
theorem kept_versions_ok (T : All K mg) {a : Addr} {vs : List Int} {H : Hp} {Q : VK} {E : XK} (ha : H a = some (.lst (vs.map V.int))) (pw : vs.Pairwise (· < ·)) (hb : ∀ u ∈ vs, Big2 u) (hl : vs.length < 64)
    (k : ∀ p H', Ex H H' → H p = none → H' p = none → Q (.ref p) (upd H' p (.lst ((keptV vs).map V.int)))) : sp_kept_versions T [.ref a] H Q E := by
  unfold sp_kept_versions
  refine ⟨rfl, ?_⟩
  walk_at "vc"
  intro f nf
  have naf : a ≠ f := ne_of_none ha nf
  have x0 : Ex H (upd H f (.dK [])) := Ex.put nf
  have g0 : upd H f (.dK []) f = some (.dK (flagK [])) := upd_same
  generalize upd H f (.dK []) = H0 at x0 g0 ⊢
  walk_at "vc"
  refine ⟨fun m σ' H' => ∃ (j : Nat) (fk left : List Int) (lp : Addr) (z4 z5 : Option V), σ' = [some (.ref a), some (.ref f), some (.int (2 ^ j)), some (.ref lp), z4, z5] ∧ Ex H H' ∧ H' f = some (.dK (flagK fk)) ∧ H' lp = some (.lst (left.map V.int)) ∧ m = 300 - j ∧ j ≤ 211 ∧ fk.Nodup ∧
    ((left = mult j vs ∧ (0 < j → left ≠ [0]) ∧ ∀ v, v ∈ fk ↔ ∃ i, i < j ∧ v ∈ last2 (mult i vs)) ∨ (left = [] ∧ ∀ v, v ∈ fk ↔ InK vs v)), 300, ⟨0, [], vs, a, none, none, rfl, x0, g0, x0 _ _ ha, rfl, by omega, .nil, .inl ⟨(mult_zero vs).symm, (fun z => absurd z (by omega)), fun v => ⟨fun z => (List.not_mem_nil z).elim, fun ⟨i, h, _⟩ => absurd h (by omega)⟩⟩⟩, ?_⟩
  rintro m σ' H' ⟨j, fk, left, lp, z4, z5, rfl, x1, gf, gl, rfl, j1, nd, st⟩
  walk_at "vc"
  refine ⟨Nat.le_of_ble_eq_true rfl, fun t1 n1 => ?_⟩
  have gl1 := Ex.put (o := .lst []) n1 _ _ gl
  have gf1 := Ex.put (o := .lst []) n1 _ _ gf
  have gt1 : upd H' t1 (.lst []) t1 = some (.lst []) := upd_same
  have x2 := x1.trans (Ex.put (o := .lst []) n1)
  generalize upd H' t1 (.lst []) = H1 at gl1 gf1 gt1 x2 ⊢
  clear gl gf x1 n1
  refine ⟨.list (left.map PyData.int), .list [], .lst (.of gl1) (dp_ints _), .lst (.of gt1) .nil, shaped_li _, rfl, ?_⟩
  rw [show (!PyData.eqv (.list (left.map PyData.int)) (.list [])) = !left.isEmpty by cases left <;> rfl]
  refine ⟨fun k1 => ?_, fun k1 => ?_⟩
  · -- a turn
    obtain ⟨el, e0, hf⟩ : left = mult j vs ∧ (0 < j → left ≠ [0]) ∧ ∀ v, v ∈ fk ↔ ∃ i, i < j ∧ v ∈ last2 (mult i vs) := by
      rcases st with h | ⟨el, _⟩
      · exact h
      · rw [el] at k1; cases k1
    have ne : left ≠ [] := fun e => by rw [e] at k1; cases k1
    have lsub : ∀ u ∈ left, u ∈ vs ∧ u % 2 ^ j = 0 := fun u hu => by
      rw [el] at hu
      obtain ⟨a1, a2⟩ := List.mem_filter.mp hu
      exact ⟨a1, of_decide_eq_true a2⟩
    have lpw : left.Pairwise (· < ·) := by rw [el]; exact pw.sublist List.filter_sublist
    have ll : left.length ≤ vs.length := by rw [el]; exact List.length_filter_le ..
    have j2 : j ≤ 209 ∨ j = 0 := by
      by_cases h0 : j = 0
      · exact .inr h0
      · refine .inl (Classical.byContradiction fun hj => ?_)
        have z : ∀ u ∈ left, u = 0 := fun u hu => pow_dvd_lt (hb u (lsub u hu).1).1 (hb u (lsub u hu).1).2 (show 210 ≤ j by omega) (lsub u hu).2
        refine e0 (by omega) ?_
        match left, ne, z, lpw with
        | [x], _, z, _ => rw [z x (by simp)]
        | x :: y :: r, _, z, lpw =>
          have h1 := z x (by simp)
          have h2 := z y (by simp)
          have := (List.pairwise_cons.mp lpw).1 y (by simp)
          omega
    walk_at "vc"
    refine ⟨lp, _, rfl, .of gl1, fun t2 n2 => ?_⟩
    rw [cutV_last2, last2_map]
    have gl2 := Ex.put (o := .lst ((last2 left).map V.int)) n2 _ _ gl1
    have gf2 := Ex.put (o := .lst ((last2 left).map V.int)) n2 _ _ gf1
    have gt2 : upd H1 t2 (.lst ((last2 left).map V.int)) t2 = some (.lst ((last2 left).map V.int)) := upd_same
    have x3 := x2.trans (Ex.put (o := .lst ((last2 left).map V.int)) n2)
    generalize upd H1 t2 (.lst ((last2 left).map V.int)) = H2 at gl2 gf2 gt2 x3 ⊢
    clear gl1 gf1 gt1 x2 n2
    have nft : f ≠ t2 := ne_kind gf2 gt2 (fun e => by cases e)
    have nfl : f ≠ lp := ne_kind gf2 gl2 (fun e => by cases e)
    have fkl : ∀ l : List Int, l.Nodup → (∀ v ∈ l, v ∈ vs) → l.length ≤ vs.length := fun l h1 h2 => nodup_len h1 h2
    have fks : ∀ v ∈ fk, v ∈ vs := fun v hv => by
      obtain ⟨i, _, hi⟩ := (hf v).mp hv
      exact (List.mem_filter.mp (last2_mem hi)).1
    refine ⟨t2, _, rfl, .of gt2, ?_⟩
    refine forB (fun i σ' H' => ∃ (ks : List Int) (z4 : Option V), σ' = [some (.ref a), some (.ref f), some (.int (2 ^ j)), some (.ref lp), z4, z5] ∧ Ex H H' ∧ H' f = some (.dK (flagK ks)) ∧ H' lp = some (.lst (left.map V.int)) ∧ H' t2 = some (.lst ((last2 left).map V.int)) ∧ ks.Nodup ∧ ∀ v, v ∈ ks ↔ v ∈ fk ∨ v ∈ (last2 left).take i) ⟨fk, z4, rfl, x3, gf2, gl2, gt2, nd, fun v => by simp⟩
      (fun i σ' H' hi p => by obtain ⟨ks, z4, rfl, x, g1, g2, g3, _⟩ := p; exact .of g3) (fun i σ' H' hi p => ?_) fun σ' H' p => ?_
    · obtain ⟨ks, z4, rfl, x, g1, g2, g3, nk, hk⟩ := p
      intro v hv
      rw [List.getElem?_map] at hv
      obtain ⟨u, hu, rfl⟩ := Option.map_eq_some_iff.mp hv
      have kl : ks.length ≤ vs.length := fkl ks nk fun w hw => by
        rcases (hk w).mp hw with z | z
        · exact fks w z
        · exact (lsub w (last2_mem (List.mem_of_mem_take z))).1
      walk_at "vc"
      refine ⟨f, _, .inl u, rfl, rfl, g1, by unfold flagK; rw [List.length_map]; omega, ?_⟩
      rw [putK_flag]
      refine fg.i ⟨addF ks u, _, rfl, fun c o e => ?_, upd_same, ?_, ?_, addF_nd nk, fun w => ?_⟩
      · rw [upd_ne (ne_of_none e nf)]
        exact x c o e
      · rw [upd_ne nfl.symm]; exact g2
      · rw [upd_ne nft.symm]; exact g3
      · rw [addF_mem, hk w, List.take_add_one, hu]
        simp [or_assoc]
    obtain ⟨ks, z4, rfl, x, g1, g2, g3, nk, hk⟩ := p
    clear gl2 gf2 gt2 x3
    have hk2 : ∀ v, v ∈ ks ↔ ∃ i, i < j + 1 ∧ v ∈ last2 (mult i vs) := fun v => by
      rw [hk v, List.length_map, List.take_length, hf v, el]
      refine ⟨fun z => ?_, fun ⟨i, hi, h⟩ => ?_⟩
      · rcases z with ⟨i, hi, h⟩ | h
        · exact ⟨i, by omega, h⟩
        · exact ⟨j, by omega, h⟩
      · by_cases e : i = j
        · subst e; exact .inr h
        · exact .inl ⟨i, by omega, h⟩
    have ks_sub : ∀ v ∈ ks, v ∈ vs := fun v hv => by
      obtain ⟨i, _, hi⟩ := (hk2 v).mp hv
      exact (List.mem_filter.mp (last2_mem hi)).1
    have ksl := fkl ks nk ks_sub
    have s0 : (0 : Int) < 2 ^ (j + 1) := Int.pow_pos (by decide)
    have es : (2 : Int) ^ j * 2 = 2 ^ (j + 1) := (Int.pow_succ ..).symm
    walk_at "vc"
    refine ⟨by walk_at "G:mul", ?_⟩
    rw [es]
    walk_at "vc"
    refine ⟨lp, _, rfl, .of g2, ?_⟩
    refine lc_ints (fun u => decide (u % 2 ^ (j + 1) = 0)) V.int (by omega) (.of g2) (fun u d acc R hu nd kk => ?_) (fun u d acc H4 R hu hf nd x4 kk => ?_) fun lm nm => ?_
    · walk_at "vc"
      refine ⟨s0, ?_⟩
      walk_at "vc"
      exact kk _ (Ex.refl _)
    · exact kk _ x4
    rw [el, mult_succ]
    have gm : upd H' lm (.lst ((mult (j + 1) vs).map V.int)) lm = some (.lst ((mult (j + 1) vs).map V.int)) := upd_same
    have gf3 := Ex.put (o := .lst ((mult (j + 1) vs).map V.int)) nm _ _ g1
    have x4 := x.trans (Ex.put (o := .lst ((mult (j + 1) vs).map V.int)) nm)
    generalize upd H' lm (.lst ((mult (j + 1) vs).map V.int)) = H3 at gm gf3 x4 ⊢
    clear nm g1 g2 g3 x
    walk_at "vc"
    refine ⟨Nat.le_of_ble_eq_true rfl, fun t3 n3 => ?_⟩
    have gm := Ex.put (o := .lst [.int 0]) n3 _ _ gm
    have gf3 := Ex.put (o := .lst [.int 0]) n3 _ _ gf3
    have gt3 : upd H3 t3 (.lst [.int 0]) t3 = some (.lst ([0].map V.int)) := upd_same
    have x5 := x4.trans (Ex.put (o := .lst [.int 0]) n3)
    generalize upd H3 t3 (.lst [.int 0]) = H5 at gm gf3 gt3 x5 ⊢
    clear x4 n3
    refine ⟨.list ((mult (j + 1) vs).map PyData.int), .list ([0].map PyData.int), .lst (.of gm) (dp_ints _), .lst (.of gt3) (dp_ints [0]), shaped_li _, shaped_li _, ?_⟩
    rw [show PyData.eqv (.list ((mult (j + 1) vs).map PyData.int)) (.list ([0].map PyData.int)) = decide (mult (j + 1) vs = [0]) from eqv_ints _ _]
    refine ⟨fun k2 => ?_, fun k2 => ?_⟩
    · have k2 := of_decide_eq_true k2
      walk_at "vc"
      refine ⟨f, _, .inl 0, rfl, rfl, gf3, by unfold flagK; rw [List.length_map]; omega, ?_⟩
      rw [putK_flag]
      have nfm : f ≠ lm := ne_kind gf3 gm (fun e => by cases e)
      walk_at "vc"
      refine ⟨Nat.le_of_ble_eq_true rfl, fun t4 n4 => ?_⟩
      walk_at "vc"
      refine ⟨300 - (j + 1), by omega, fg.i ⟨j + 1, addF ks 0, [], t4, _, _, rfl, fun c o e => ?_, ?_, upd_same, rfl, by omega, addF_nd nk, .inr ⟨rfl, fun v => ?_⟩⟩⟩
      · rw [upd_ne (fun e2 => by
          subst e2
          have := x5 _ _ e
          rw [upd_ne (ne_of_none e nf)] at n4
          rw [this] at n4
          cases n4), upd_ne (ne_of_none e nf)]
        exact x5 c o e
      · have nft4 : f ≠ t4 := fun e => by subst e; rw [upd_same] at n4; cases n4
        rw [upd_ne nft4]
        exact upd_same
      · rw [addF_mem, hk2 v]
        refine ⟨fun z => ?_, fun ⟨i, hi⟩ => ?_⟩
        · rcases z with ⟨i, _, h⟩ | rfl
          · exact ⟨i, h⟩
          · exact ⟨j + 1, by rw [k2]; exact List.mem_singleton.mpr rfl⟩
        · by_cases e : i < j + 1
          · exact .inl ⟨i, e, hi⟩
          · have := mult_sub (show j + 1 ≤ i by omega) (last2_mem hi)
            rw [k2] at this
            exact .inr (List.mem_singleton.mp this)
    · have k2 := of_decide_eq_false k2
      unfold zNil
      dsimp only
      walk_at "vc"
      refine ⟨300 - (j + 1), by omega, fg.i ⟨j + 1, ks, mult (j + 1) vs, lm, _, _, rfl, x5, gf3, gm, rfl, by omega, nk, .inl ⟨rfl, fun _ => k2, hk2⟩⟩⟩
  · -- the end
    have e : left = [] := by cases left with
      | nil => rfl
      | cons _ _ => cases k1
    have hk : ∀ v, v ∈ fk ↔ InK vs v := by
      rcases st with ⟨el, e0, hf⟩ | ⟨_, hf⟩
      · refine fun v => (hf v).trans ⟨fun ⟨i, _, h⟩ => ⟨i, h⟩, fun ⟨i, h⟩ => ⟨i, Classical.byContradiction fun hi => ?_, h⟩⟩
        have := mult_sub (show j ≤ i by omega) (last2_mem h)
        rw [← el, e] at this
        cases this
      · exact hf
    have fkl : fk.length ≤ vs.length := nodup_len nd fun v hv => ((hk v).mp hv).mem
    walk_at "vc"
    refine ⟨f, _, fk, rfl, gf1, by unfold flagK; rw [List.map_map]; rfl, by omega, fun ys q pm sy nq => ?_⟩
    have ey : ys = keptV vs := by
      have ny : ys.Nodup := pm.nodup_iff.mpr nd
      refine mem_eq ?_ (keptV_pw pw) fun v => by rw [pm.mem_iff, hk v, mem_keptV hb]
      refine List.Pairwise.imp₂ (fun x y h1 h2 => ?_) sy ny
      have : x ≠ y := h2
      omega
    rw [ey]
    exact fg.i (k q _ x2 (x2.free nq) nq)
theorem Memory_record_ok (T : All K mg) {a d : Addr} {m : Mst} {n : Nat} {v : Int} {x : Option Int} {H : Hp} {Q : VK} {E : XK} (h : MAt T.Memory H a d m) (ok : MOk m n) (hn : n < 62) (b : Big2 v) (hl : ∀ l, m.last = some l → l < v)
    (k : ∀ d2 H', Fr [a] H H' → H d2 = none → MAt T.Memory H' a d2 (m.record v x) → Q .non H') : sp_Memory_record T [.ref a, .int v, optV x] H Q E := by
  have h0 := h
  obtain ⟨⟨dx, h1⟩, h2⟩ := h
  have asc := ok.asc hl
  have bigs := ok.bigs b
  have len := ok.len
  unfold sp_Memory_record
  refine ⟨rfl, ?_⟩
  walk_at "vc"
  refine want_version_int T b.1 ?_
  have first : ∀ {D : Ends} {W : WX} {σ : St}, D.nx ([some (.ref a), some (.int v)] ++ σ) H → zIf (tAnd (tCmp oIsN (rFld T.Memory "last" (rVar 0)) (rC .non)) (tCmp oLe (rVar 1) (rFld T.Memory "last" (rVar 0)))) (zNo) (zNil) D W ([some (.ref a), some (.int v)] ++ σ) H := fun {D W σ} hh => by
    walk_at "vc"
    refine ⟨a, dx, _, _, rfl, h1, rfl, ?_⟩
    cases e : m.last with
    | none => exact ⟨rfl, (fun z => nomatch z), fun _ => ⟨(fun z => nomatch z), fun _ => hh⟩⟩
    | some l =>
      refine ⟨rfl, fun _ => ?_, (fun z => nomatch z)⟩
      walk_at "vc"
      refine ⟨a, dx, _, _, rfl, h1, rfl, ?_⟩
      rw [e]
      walk_at "vc"
      rw [decide_eq_false (show ¬ v ≤ l by have := hl l e; omega)]
      exact ⟨(fun z => nomatch z), fun _ => hh⟩
  refine first (σ := [some (optV x), none, none]) ?_
  clear first
  have second : ∀ {D : Ends} {W : WX} {σ : St}, D.nx ([some (.ref a), some (.int v), some (optV x)] ++ σ) H → zIf (tAnd (tCmp oIsN (rVar 2) (rC .non)) (tNot (tV (rCall (sp_is_int T) [] (aCons (rVar 2) aNil))))) (zRaise T.InvalidNumber (aCons (rC (.str "an integer or None is required")) aNil)) (zNil) D W ([some (.ref a), some (.int v), some (optV x)] ++ σ) H := fun {D W σ} hh => by
    walk_at "vc"
    cases e : x with
    | none =>
      subst e
      exact ⟨rfl, (fun z => nomatch z), fun _ => ⟨(fun z => nomatch z), fun _ => hh⟩⟩
    | some l =>
      subst e
      refine ⟨rfl, fun _ => ?_, (fun z => nomatch z)⟩
      walk_at "vc"
      refine is_int_ok T (.int _) ?_
      exact ⟨(fun z => nomatch z), fun _ => hh⟩
  refine second (σ := [none, none]) ?_
  clear second
  walk_at "vc"
  refine ⟨a, dx, _, _, rfl, h1, rfl, d, _, rfl, h2, fun p np => ?_⟩
  refine ⟨p, _, .inl v, rfl, rfl, upd_same, by rw [List.length_map]; omega, ?_⟩
  have nv : (.inl v : Key) ∉ (m.rows.map rowK).map (·.1) := fun z => by
    rw [List.map_map] at z
    obtain ⟨r, hr, e⟩ := List.mem_map.mp z
    have e : r.1 = v := Sum.inl.inj e
    have := (List.pairwise_append.mp asc).2.2 r.1 (List.mem_map.mpr ⟨r, hr, rfl⟩) v (by simp)
    omega
  rw [upd_upd, putK_new nv, show m.rows.map rowK ++ [((.inl v : Key), optV x)] = (m.rows ++ [(v, x)]).map rowK by rw [List.map_append]; rfl]
  have x1 := Ex.put (o := .dK ((m.rows ++ [(v, x)]).map rowK)) np
  have gp : upd H p (.dK ((m.rows ++ [(v, x)]).map rowK)) p = some (.dK ((m.rows ++ [(v, x)]).map rowK)) := upd_same
  generalize upd H p (.dK ((m.rows ++ [(v, x)]).map rowK)) = H1 at x1 gp ⊢
  walk_at "vc"
  have ek : ((m.rows ++ [(v, x)]).map rowK).map (·.1) = (m.vs ++ [v]).map Sum.inl := by
    rw [List.map_map, List.map_append, List.map_append, List.map_map]
    rfl
  refine ⟨p, _, m.vs ++ [v], rfl, gp, ek, by rw [List.length_append, List.length_map, List.length_singleton]; omega, fun ys q pm sy nq => ?_⟩
  have ey : ys = m.vs ++ [v] := by
    have ny : ys.Nodup := pm.nodup_iff.mpr (lt_nodup asc)
    refine mem_eq ?_ asc fun v => pm.mem_iff
    refine List.Pairwise.imp₂ (fun x y h1 h2 => ?_) sy ny
    have : x ≠ y := h2
    omega
  subst ey
  have x2 := x1.trans (Ex.put (o := .lst ((m.vs ++ [v]).map V.int)) nq)
  have gp := Ex.put (o := .lst ((m.vs ++ [v]).map V.int)) nq _ _ gp
  have gq : upd H1 q (.lst ((m.vs ++ [v]).map V.int)) q = some (.lst ((m.vs ++ [v]).map V.int)) := upd_same
  generalize upd H1 q (.lst ((m.vs ++ [v]).map V.int)) = H2 at x2 gp gq ⊢
  refine kept_versions_ok T gq asc bigs (by rw [List.length_append, List.length_map, List.length_singleton]; omega) fun c H3 y3 _ nc => ?_
  have x3 := (x2.trans y3).trans (Ex.put (o := .lst ((keptV (m.vs ++ [v])).map V.int)) nc)
  have gp := Ex.put (o := .lst ((keptV (m.vs ++ [v])).map V.int)) nc _ _ (y3 _ _ gp)
  have gc : upd H3 c (.lst ((keptV (m.vs ++ [v])).map V.int)) c = some (.lst ((keptV (m.vs ++ [v])).map V.int)) := upd_same
  generalize upd H3 c (.lst ((keptV (m.vs ++ [v])).map V.int)) = H4 at x3 gp gc ⊢
  refine ⟨c, _, rfl, .of gc, ?_⟩
  have kl := keptV_len (m.vs ++ [v])
  rw [List.length_append, List.length_map, List.length_singleton] at kl
  have pwr : ((m.rows ++ [(v, x)]).map (·.1)).Pairwise (· < ·) := by
    rw [List.map_append]
    exact asc
  refine dc_ints (fun u => (valV ((m.rows ++ [(v, x)]).map rowK) (.inl u)).getD .non) (keptV_pw asc) (by omega) (fun _ => trivial) (fun H' x => .of (x _ _ gc)) (fun u d acc R hu nd kk => ?_) fun d2 nd2 => ?_
  · walk_at "vc"
    have mu : u ∈ (m.rows ++ [(v, x)]).map (·.1) := by
      have := keptV_sub hu
      rw [List.map_append]
      exact this
    obtain ⟨r, hr, rfl⟩ := List.mem_map.mp mu
    refine ⟨p, _, .inl r.1, _, rfl, Ex.put nd _ _ gp, rfl, valV_row pwr hr, ?_⟩
    have := kk _ (Ex.refl _)
    rw [valV_row pwr hr] at this
    exact this
  have ed : ((keptV (m.vs ++ [v])).map fun u => ((.inl u : Key), (valV ((m.rows ++ [(v, x)]).map rowK) (.inl u)).getD .non)) = (m.record v x).rows.map rowK := by
    rw [← Mst.record_vs (x := x), List.map_map]
    refine List.map_congr_left fun r hr => ?_
    have hr : r ∈ m.rows ++ [(v, x)] := (List.mem_filter.mp hr).1
    show ((.inl r.1 : Key), (valV ((m.rows ++ [(v, x)]).map rowK) (.inl r.1)).getD .non) = rowK r
    rw [valV_row pwr hr]
    rfl
  rw [ed]
  have x4 := x3.trans (Ex.put (o := .dK ((m.record v x).rows.map rowK)) nd2)
  have n2 := x3.free nd2
  have gd2 : upd H4 d2 (.dK ((m.record v x).rows.map rowK)) d2 = some (.dK ((m.record v x).rows.map rowK)) := upd_same
  generalize upd H4 d2 (.dK ((m.record v x).rows.map rowK)) = H5 at x4 gd2 ⊢
  have nad : d2 ≠ a := fun e => by subst e; rw [h1] at n2; cases n2
  walk_at "vc"
  refine ⟨a, dx, _, rfl, x4 _ _ h1, Nat.le_of_ble_eq_true rfl, ?_⟩
  walk_at "vc"
  refine ⟨a, dx, _, rfl, upd_same, Nat.le_of_ble_eq_true rfl, ?_⟩
  rw [upd_upd]
  refine fg.i (k d2 _ ((Fr.of_ex x4).upd (.inl (by simp))) n2 ⟨⟨dx, upd_same⟩, ?_⟩)
  rw [upd_ne nad]
  exact gd2
theorem Memory_versions_ok (T : All K mg) {a d : Addr} {m : Mst} {H : Hp} {Q : VK} {E : XK} (h : MAt T.Memory H a d m) (k : ∀ p, H p = none → Q (.ref p) (upd H p (.lst (m.vs.map V.int)))) : sp_Memory_versions T [.ref a] H Q E := by
  obtain ⟨⟨dx, h1⟩, h2⟩ := h
  unfold sp_Memory_versions
  refine ⟨rfl, ?_⟩
  walk_at "vc"
  refine ⟨a, dx, _, _, rfl, h1, rfl, d, _, rfl, h2, fun p np => fg.i ?_⟩
  have e : ((m.rows.map rowK).map fun kv => kV kv.1) = m.vs.map V.int := by
    rw [List.map_map, List.map_map]
    rfl
  rw [e]
  exact k p np
theorem Memory_records_ok (T : All K mg) {a d : Addr} {m : Mst} {H : Hp} {Q : VK} {E : XK} (h : MAt T.Memory H a d m)
    (k : ∀ p ts H', Ex H H' → H p = none → (∀ t ∈ ts, H t = none) → p ∉ ts → H' p = some (.lst (ts.map V.ref)) → RowsAt H' ts m.rows → Q (.ref p) H') : sp_Memory_records T [.ref a] H Q E := by
  obtain ⟨⟨dx, h1⟩, h2⟩ := h
  unfold sp_Memory_records
  refine ⟨rfl, ?_⟩
  walk_at "vc"
  refine ⟨a, dx, _, _, rfl, h1, rfl, d, _, rfl, h2, fun H' p ts g1 g2 g3 g4 g5 g6 => fg.i (k p ts H' g1 g2 g3 g4 g5 ?_)⟩
  unfold RowsAt
  revert g6
  generalize m.rows = rs
  clear g5 g4 g3
  intro g6
  induction rs generalizing ts with
  | nil => cases g6; exact .nil
  | cons r rs ih => cases g6 with
    | cons h t => exact .cons h (ih _ t)
theorem common_version_ok (T : All K mg) {p : Addr} {ms : List MemP} {lim : Option Int} {H : Hp} {Q : VK} {E : XK} (hp : SqL K H p (ms.map memV) ∨ SqT K H p (ms.map memV)) (hm : MsAt T.Memory H ms) (hl : ∀ l, lim = some l → 0 ≤ l) (hn : ms.length ≤ 1000)
    (k : ∀ H', Ex H H' → Q (optV (common (ms.map (·.2.2)) lim)) H') : sp_common_version T [.ref p, optV lim] H Q E := by
  unfold sp_common_version
  refine ⟨rfl, ?_⟩
  have first : ∀ {D : Ends} {W : WX} {σ : St}, D.nx ([some (.ref p), some (optV lim)] ++ σ) H → zIf (tCmp oIsN (rVar 1) (rC .non)) (zExpr (rCall (sp_want_version T) [] (aCons (rVar 1) aNil))) (zNil) D W ([some (.ref p), some (optV lim)] ++ σ) H := fun {D W σ} hh => by
    walk_at "vc"
    cases e : lim with
    | none =>
      subst e
      exact ⟨rfl, (fun z => nomatch z), fun _ => hh⟩
    | some l =>
      subst e
      refine ⟨rfl, fun _ => ?_, (fun z => nomatch z)⟩
      walk_at "vc"
      exact want_version_int T (hl l rfl) hh
  refine first (σ := [none, none, none, none]) ?_
  clear first
  walk_at "vc"
  refine ⟨p, _, rfl, hp, fun s ns => ?_⟩
  have x1 := Ex.put (o := .lst (ms.map memV)) ns
  have gs : upd H s (.lst (ms.map memV)) s = some (.lst (ms.map memV)) := upd_same
  have hm := hm.ex x1
  generalize upd H s (.lst (ms.map memV)) = H1 at x1 gs hm ⊢
  walk_at "vc"
  refine ⟨Nat.le_of_ble_eq_true rfl, fun t1 n1 => ?_⟩
  refine ⟨s, t1, _, rfl, rfl, .of (Ex.put n1 _ _ gs), .of upd_same, ?_⟩
  have x2 := x1.trans (Ex.put (o := .lst []) n1)
  have gs := Ex.put (o := .lst []) n1 _ _ gs
  have hm := hm.ex (Ex.put (o := .lst []) n1)
  generalize upd H1 t1 (.lst []) = H2 at x2 gs hm ⊢
  cases ms with
  | nil =>
    refine ⟨fun _ => ?_, (fun z => nomatch z)⟩
    walk_at "vc"
    exact fg.i (k H2 x2)
  | cons q r =>
    refine ⟨(fun z => nomatch z), fun _ => ?_⟩
    (try unfold zNil)
    (try dsimp only)
    obtain ⟨A, ok⟩ := hm q (List.mem_cons_self ..)
    obtain ⟨⟨dx, i⟩, _⟩ := id A
    walk_at "vc"
    refine ⟨s, _, 0, memV q, rfl, rfl, .of gs, by simp [atI, ixN], q.1, dx, _, rfl, i, rfl, Memory_versions_ok T A fun l nl => ?_⟩
    have x3 := x2.trans (Ex.put (o := .lst (q.2.2.vs.map V.int)) nl)
    have gs := Ex.put (o := .lst (q.2.2.vs.map V.int)) nl _ _ gs
    have gl : upd H2 l (.lst (q.2.2.vs.map V.int)) l = some (.lst (q.2.2.vs.map V.int)) := upd_same
    have hm := hm.ex (Ex.put (o := .lst (q.2.2.vs.map V.int)) nl)
    generalize upd H2 l (.lst (q.2.2.vs.map V.int)) = H3 at x3 gs gl hm ⊢
    refine ⟨l, _, rfl, .of gl, ?_⟩
    refine forB (fun i σ' H' => H' = H3 ∧ ∃ z4 z5, σ' = [some (.ref p), some (optV lim), some (.ref s), some (optV (((q.2.2.vs.take i).filter fun v => inAll ((q :: r).map (·.2.2)) v && limOk lim v).getLast?)), z4, z5]) ⟨rfl, none, none, rfl⟩ (fun i σ' H' hi P => by obtain ⟨rfl, _⟩ := P; exact .of gl) (fun i σ' H' hi P => ?_) fun σ' H' P => ?_
    · obtain ⟨rfl, z4, z5, rfl⟩ := P
      intro v hv
      rw [List.getElem?_map] at hv
      obtain ⟨v, hv2, rfl⟩ := Option.map_eq_some_iff.mp hv
      have et : q.2.2.vs.take (i + 1) = q.2.2.vs.take i ++ [v] := by rw [List.take_add_one, hv2]; rfl
      have yes : inAll ((q :: r).map (·.2.2)) v = true → limOk lim v = true → (((q.2.2.vs.take (i + 1)).filter fun v => inAll ((q :: r).map (·.2.2)) v && limOk lim v).getLast?) = some v := fun a b => by
        rw [et]
        exact last_snoc (by rw [a, b]; rfl)
      have no : (inAll ((q :: r).map (·.2.2)) v = false ∨ limOk lim v = false) → (((q.2.2.vs.take (i + 1)).filter fun v => inAll ((q :: r).map (·.2.2)) v && limOk lim v).getLast?) = (((q.2.2.vs.take i).filter fun v => inAll ((q :: r).map (·.2.2)) v && limOk lim v).getLast?) := fun a => by
        rw [et]
        exact last_skip (by
          show (inAll ((q :: r).map (·.2.2)) v && limOk lim v) = false
          rcases a with a | a
          · rw [a]; rfl
          · rw [a, Bool.and_false])
      walk_at "vc"
      refine ⟨s, _, rfl, .of gs, ?_⟩
      refine lc_map0 (g := memV) (fun u => V.bl (decide (v ∈ u.2.2.vs))) (by omega) (.of gs) (fun u d acc R hu nd kk => ?_) fun b nb => ?_
      · obtain ⟨Au, oku⟩ := hm u hu
        obtain ⟨⟨du, iu⟩, _⟩ := id Au
        walk_at "vc"
        refine ⟨u.1, du, _, rfl, Ex.put nd _ _ iu, rfl, Memory_versions_ok T (Au.ex (Ex.put nd)) fun w nw => ?_⟩
        refine ⟨w, _, rfl, .of upd_same, rfl, flat_ints _, ?_⟩
        rw [inV_int]
        exact kk _ (Ex.put nw)
      have eb : (q :: r).map (fun u => V.bl (decide (v ∈ u.2.2.vs))) = (((q :: r).map (·.2.2)).map fun m => decide (v ∈ m.vs)).map V.bl := by rw [List.map_map, List.map_map]; rfl
      rw [eb]
      refine ⟨b, _, rfl, .of upd_same, ?_⟩
      have ea : ((((q :: r).map (·.2.2)).map fun m => decide (v ∈ m.vs)).all id) = inAll ((q :: r).map (·.2.2)) v := by
        unfold inAll
        rw [List.all_map]
        rfl
      rw [ea]
      have xb := Ex.put (o := .lst ((((q :: r).map (·.2.2)).map fun m => decide (v ∈ m.vs)).map V.bl)) nb
      refine ⟨fun ka => ?_, fun ka => ?_⟩
      · cases el : lim with
        | none =>
          subst el
          walk_at "vc"
          refine ⟨rfl, fun _ => ?_, (fun z => nomatch z)⟩
          refine ⟨fun _ => ?_, (fun z => nomatch z)⟩
          walk_at "vc"
          exact ⟨H', xb, rfl, _, _, by rw [yes ka rfl]; rfl⟩
        | some l' =>
          subst el
          walk_at "vc"
          refine ⟨rfl, (fun z => nomatch z), fun _ => ?_⟩
          walk_at "vc"
          refine ⟨fun kl => ?_, fun kl => ?_⟩
          · walk_at "vc"
            exact ⟨H', xb, rfl, _, _, by rw [yes ka kl]; rfl⟩
          · walk_at "vc"
            exact ⟨H', xb, rfl, _, _, by rw [no (.inr kl)]; rfl⟩
      · refine ⟨(fun z => nomatch z), fun _ => ?_⟩
        walk_at "vc"
        exact ⟨H', xb, rfl, _, _, by rw [no (.inl ka)]; rfl⟩
    · obtain ⟨rfl, z4, z5, rfl⟩ := P
      walk_at "vc"
      rw [List.length_map, List.take_length]
      exact fg.i (k _ x3)
theorem law_due_ok (T : All K mg) {s : Addr} {ms : List MemP} {lim : Option Int} {H : Hp} {Q : VK} {E : XK} (gs : H s = some (.lst (ms.map memV))) (hm : MsAt T.Memory H ms) (hn : ms.length ≤ 1000)
    (k : ∀ H', Ex H H' → Q (optV (common (ms.map (·.2.2)) lim)) H') : sp__law_due T [.ref s, optV lim] H Q E := by
  unfold sp__law_due
  refine ⟨rfl, ?_⟩
  walk_at "vc"
  refine ⟨Nat.le_of_ble_eq_true rfl, fun t1 n1 => ?_⟩
  refine ⟨s, t1, _, rfl, rfl, .of (Ex.put n1 _ _ gs), .of upd_same, ?_⟩
  have x2 := Ex.put (o := .lst []) n1
  have gs := Ex.put (o := .lst []) n1 _ _ gs
  have hm := hm.ex (Ex.put (o := .lst []) n1)
  generalize upd H t1 (.lst []) = H2 at x2 gs hm ⊢
  cases ms with
  | nil =>
    refine ⟨fun _ => ?_, (fun z => nomatch z)⟩
    walk_at "vc"
    exact fg.i (k H2 x2)
  | cons q r =>
    refine ⟨(fun z => nomatch z), fun _ => ?_⟩
    (try unfold zNil)
    (try dsimp only)
    obtain ⟨A, ok⟩ := hm q (List.mem_cons_self ..)
    obtain ⟨⟨dx, i⟩, _⟩ := id A
    walk_at "vc"
    refine ⟨s, _, 0, memV q, rfl, rfl, .of gs, by simp [atI, ixN], q.1, dx, _, rfl, i, rfl, Memory_versions_ok T A fun l nl => ?_⟩
    have x3 := x2.trans (Ex.put (o := .lst (q.2.2.vs.map V.int)) nl)
    have gs := Ex.put (o := .lst (q.2.2.vs.map V.int)) nl _ _ gs
    have gl : upd H2 l (.lst (q.2.2.vs.map V.int)) l = some (.lst (q.2.2.vs.map V.int)) := upd_same
    have hm := hm.ex (Ex.put (o := .lst (q.2.2.vs.map V.int)) nl)
    generalize upd H2 l (.lst (q.2.2.vs.map V.int)) = H3 at x3 gs gl hm ⊢
    refine ⟨l, _, rfl, .of gl, ?_⟩
    refine forB (fun i σ' H' => H' = H3 ∧ ∃ z4 z5, σ' = [some (.ref s), some (optV lim), some (optV (((q.2.2.vs.take i).filter fun v => inAll ((q :: r).map (·.2.2)) v && limOk lim v).getLast?)), z4, z5]) ⟨rfl, none, none, rfl⟩ (fun i σ' H' hi P => by obtain ⟨rfl, _⟩ := P; exact .of gl) (fun i σ' H' hi P => ?_) fun σ' H' P => ?_
    · obtain ⟨rfl, z4, z5, rfl⟩ := P
      intro v hv
      rw [List.getElem?_map] at hv
      obtain ⟨v, hv2, rfl⟩ := Option.map_eq_some_iff.mp hv
      have et : q.2.2.vs.take (i + 1) = q.2.2.vs.take i ++ [v] := by rw [List.take_add_one, hv2]; rfl
      have yes : inAll ((q :: r).map (·.2.2)) v = true → limOk lim v = true → (((q.2.2.vs.take (i + 1)).filter fun v => inAll ((q :: r).map (·.2.2)) v && limOk lim v).getLast?) = some v := fun a b => by
        rw [et]
        exact last_snoc (by rw [a, b]; rfl)
      have no : (inAll ((q :: r).map (·.2.2)) v = false ∨ limOk lim v = false) → (((q.2.2.vs.take (i + 1)).filter fun v => inAll ((q :: r).map (·.2.2)) v && limOk lim v).getLast?) = (((q.2.2.vs.take i).filter fun v => inAll ((q :: r).map (·.2.2)) v && limOk lim v).getLast?) := fun a => by
        rw [et]
        exact last_skip (by
          show (inAll ((q :: r).map (·.2.2)) v && limOk lim v) = false
          rcases a with a | a
          · rw [a]; rfl
          · rw [a, Bool.and_false])
      walk_at "vc"
      refine ⟨s, _, rfl, .of gs, ?_⟩
      refine lc_map0 (g := memV) (fun u => V.bl (decide (v ∈ u.2.2.vs))) (by omega) (.of gs) (fun u d acc R hu nd kk => ?_) fun b nb => ?_
      · obtain ⟨Au, oku⟩ := hm u hu
        obtain ⟨⟨du, iu⟩, _⟩ := id Au
        walk_at "vc"
        refine ⟨u.1, du, _, rfl, Ex.put nd _ _ iu, rfl, Memory_versions_ok T (Au.ex (Ex.put nd)) fun w nw => ?_⟩
        refine ⟨w, _, rfl, .of upd_same, rfl, flat_ints _, ?_⟩
        rw [inV_int]
        exact kk _ (Ex.put nw)
      have eb : (q :: r).map (fun u => V.bl (decide (v ∈ u.2.2.vs))) = (((q :: r).map (·.2.2)).map fun m => decide (v ∈ m.vs)).map V.bl := by rw [List.map_map, List.map_map]; rfl
      rw [eb]
      refine ⟨b, _, rfl, .of upd_same, ?_⟩
      have ea : ((((q :: r).map (·.2.2)).map fun m => decide (v ∈ m.vs)).all id) = inAll ((q :: r).map (·.2.2)) v := by
        unfold inAll
        rw [List.all_map]
        rfl
      rw [ea]
      have xb := Ex.put (o := .lst ((((q :: r).map (·.2.2)).map fun m => decide (v ∈ m.vs)).map V.bl)) nb
      refine ⟨fun ka => ?_, fun ka => ?_⟩
      · cases el : lim with
        | none =>
          subst el
          walk_at "vc"
          refine ⟨rfl, fun _ => ?_, (fun z => nomatch z)⟩
          refine ⟨fun _ => ?_, (fun z => nomatch z)⟩
          walk_at "vc"
          exact ⟨H', xb, rfl, _, _, by rw [yes ka rfl]; rfl⟩
        | some l' =>
          subst el
          walk_at "vc"
          refine ⟨rfl, (fun z => nomatch z), fun _ => ?_⟩
          walk_at "vc"
          refine ⟨fun kl => ?_, fun kl => ?_⟩
          · walk_at "vc"
            exact ⟨H', xb, rfl, _, _, by rw [yes ka kl]; rfl⟩
          · walk_at "vc"
            exact ⟨H', xb, rfl, _, _, by rw [no (.inr kl)]; rfl⟩
      · refine ⟨(fun z => nomatch z), fun _ => ?_⟩
        walk_at "vc"
        exact ⟨H', xb, rfl, _, _, by rw [no (.inl ka)]; rfl⟩
    · obtain ⟨rfl, z4, z5, rfl⟩ := P
      walk_at "vc"
      rw [List.length_map, List.take_length]
      exact fg.i (k _ x3)
theorem law_drawn_ok (T : All K mg) {p : Addr} {b : Int} {H : Hp} {Q : VK} {E : XK} (hp : H p = some (pot p)) (b0 : 0 ≤ b) (b1 : b ≤ 2 ^ 205) (k : ∀ x d m H', Ex H H' → H x = none → MAt T.Memory H' x d m → MOk m 62 → Q (.ref x) H') : sp__law_drawn T [.ref p, .int b] H Q E := by
  have e205 : (2 : Int) ^ 205 = 51422017416287688817342786954917203280710495801049370729644032 := by decide +kernel
  have e210 : (2 : Int) ^ 210 = 1645504557321206042154969182557350504982735865633579863348609024 := by decide +kernel
  rw [e205] at b1
  unfold sp__law_drawn
  refine ⟨rfl, ?_⟩
  walk_at "vc"
  intro x dx nx ndx ne
  refine Memory_init_ok T upd_same fun d H1 f1 nd A => ⟨rfl, ?_⟩
  obtain ⟨y1, x02⟩ := made_ex nx ndx ne f1
  have hp1 := y1 _ _ hp
  walk_at "vc"
  refine ⟨_, _, rfl, hp1, by walk_at "G:dig", fun d0 g0 l0 => ?_⟩
  walk_at "vc"
  refine ⟨_, _, rfl, hp1, by walk_at "G:dig", fun d1 g1 l1 => ?_⟩
  refine ⟨by omega, ?_⟩
  refine forB (fun i σ' H' => ∃ (d : Addr) (m : Mst) (h : Int) (z4 : Option V), σ' = [some (.ref p), some (.int b), some (.ref x), some (.int h), z4] ∧ Ex H H' ∧ MAt T.Memory H' x d m ∧ MOk m i ∧ (∀ l, m.last = some l → l < h) ∧ 0 ≤ h ∧ h ≤ b + 20 + 40 * i) ⟨d, .new, b + d0, none, rfl, y1, A, .new, (fun l e => nomatch e), by omega, by omega⟩
    (fun _ _ _ _ _ => trivial) (fun i σ' H' hi P => ?_) fun σ' H' P => ?_
  · obtain ⟨d, m, h, z4, rfl, x2, A, ok, lw, h0, h1⟩ := P
    have i41 : i < 41 := by omega
    obtain ⟨⟨dx2, i2⟩, _⟩ := id A
    have hp2 := x2 _ _ hp
    walk_at "vc"
    refine ⟨x, dx2, _, rfl, i2, rfl, ?_⟩
    refine ⟨_, _, rfl, hp2, by walk_at "G:dig", fun d2 g2 l2 => ?_⟩
    have bg : Big2 h := ⟨h0, by rw [e210]; omega⟩
    refine Memory_record_ok T (x := some d2) A ok (by omega) bg lw fun d3 H3 f3 n3 A3 => ?_
    have x3 : Ex H H3 := fun c o e => f3 c o (by simp; exact ne_of_none e nx) (x2 c o e)
    have ok3 := ok.record (x := some d2) bg lw (fun j e => by cases e; omega)
    have hp3 := x3 _ _ hp
    walk_at "vc"
    refine ⟨_, _, rfl, hp3, by walk_at "G:dig", fun d4 g4 l4 => ?_⟩
    walk_at "vc"
    refine ⟨Nat.le_of_ble_eq_true rfl, fun t1 n1 => ?_⟩
    refine ⟨_, _, rfl, hp_ne n1 hp3, by walk_at "G:dig", fun d5 g5 l5 => ?_⟩
    obtain ⟨g, eg, gg0, gg1⟩ : ∃ g : Int, atI [V.int 1, .int 1, .int 2, .int (1 + d4)] d5 = some (.int g) ∧ 1 ≤ g ∧ g ≤ 30 := by
      obtain rfl | rfl | rfl | rfl : d5 = 0 ∨ d5 = 1 ∨ d5 = 2 ∨ d5 = 3 := by omega
      all_goals exact ⟨_, rfl, by omega, by omega⟩
    refine ⟨t1, _, d5, .int g, rfl, rfl, .of upd_same, eg, ?_⟩
    refine fg.i ⟨d3, _, h + g, _, rfl, x3.trans (Ex.put n1), A3.ex (Ex.put n1), ok3, fun l e => ?_, by omega, by omega⟩
    cases e
    omega
  · obtain ⟨d, m, h, z4, rfl, x2, A, ok, lw, h0, h1⟩ := P
    walk_at "vc"
    exact fg.i (k x d m H' x2 nx A ⟨ok.pw, ok.big, ok.last, ok.none_, by have := ok.len; omega, ok.vals⟩)
theorem law_limits_ok (T : All K mg) {p g : Addr} {ms : List MemP} {H : Hp} {Q : VK} {E : XK} (hp : H p = some (pot p)) (hg : H g = some (.lst (ms.map memV))) (hm : MsAt T.Memory H ms) (hn : ms.length ≤ 20)
    (k : ∀ l (xs : List (Option Int)) H', Ex H H' → H' l = some (.lst (xs.map optV)) → (∀ x ∈ xs, ∀ i, x = some i → 0 ≤ i) → Q (.ref l) H') : sp__law_limits T [.ref p, .ref g] H Q E := by
  have e60 : (10 : Int) ^ (60 : Int).toNat = 1000000000000000000000000000000000000000000000000000000000000 := by decide +kernel
  unfold sp__law_limits
  refine ⟨rfl, ?_⟩
  walk_at "vc"
  refine ⟨_, _, rfl, hp, by walk_at "G:dig", fun d0 g0 l0 => ?_⟩
  walk_at "vc"
  refine ⟨by walk_at "G:pow", ?_⟩
  rw [e60]
  walk_at "vc"
  refine ⟨Nat.le_of_ble_eq_true rfl, fun l nl => ?_⟩
  have x1 := Ex.put (o := .lst [.non, .int 0, .int d0, .int (1000000000000000000000000000000000000000000000000000000000000 - 1)]) nl
  have gl : upd H l (.lst [.non, .int 0, .int d0, .int (1000000000000000000000000000000000000000000000000000000000000 - 1)]) l = some (.lst ([none, some 0, some d0, some (1000000000000000000000000000000000000000000000000000000000000 - 1)].map optV)) := upd_same
  generalize upd H l (.lst [.non, .int 0, .int d0, .int (1000000000000000000000000000000000000000000000000000000000000 - 1)]) = H1 at x1 gl ⊢
  walk_at "vc"
  refine ⟨g, _, rfl, .of (x1 _ _ hg), ?_⟩
  refine forB (fun i σ' H' => ∃ (xs : List (Option Int)) (z3 z4 : Option V), σ' = [some (.ref p), some (.ref g), some (.ref l), z3, z4] ∧ Ex H H' ∧ H' l = some (.lst (xs.map optV)) ∧ xs.length ≤ 4 + 12 * i ∧ ∀ x ∈ xs, ∀ i, x = some i → 0 ≤ i) ⟨_, none, none, rfl, x1, gl, by simp, fun x hx i e => ?_⟩
    (fun i σ' H' hi P => by obtain ⟨xs, z3, z4, rfl, x, _⟩ := P; exact .of (x _ _ hg)) (fun i σ' H' hi P => ?_) fun σ' H' P => ?_
  · simp only [List.mem_cons, List.not_mem_nil, or_false] at hx
    rcases hx with rfl | rfl | rfl | rfl <;> cases e <;> omega
  · obtain ⟨xs, z3, z4, rfl, x2, gl, ln, nn⟩ := P
    rw [List.length_map] at hi
    intro v hv
    rw [List.getElem?_map] at hv
    obtain ⟨q, hq, rfl⟩ := Option.map_eq_some_iff.mp hv
    obtain ⟨A, ok⟩ := hm q (List.mem_of_getElem? hq)
    have A := A.ex x2
    obtain ⟨⟨dx, iq⟩, _⟩ := id A
    walk_at "vc"
    refine ⟨q.1, dx, _, rfl, iq, rfl, Memory_versions_ok T A fun a na => ?_⟩
    refine ⟨a, _, rfl, .of upd_same, fun b nb => ?_⟩
    obtain ⟨us, eu, hu⟩ := cutV_map V.int q.2.2.vs (some (-4)) none
    have ul : us.length ≤ 4 := by
      have e1 : HT.sIx (q.2.2.vs.map V.int).length 0 (some (-4)) = (q.2.2.vs.map V.int).length - 4 := by
        show (if (-4 : Int) < 0 then ((-4 : Int) + ((q.2.2.vs.map V.int).length : Int)).toNat else min (-4 : Int).toNat (q.2.2.vs.map V.int).length) = _
        rw [if_pos (by decide)]
        omega
      have : (cutV (q.2.2.vs.map V.int) (some (-4)) none).length ≤ 4 := by
        unfold cutV
        rw [e1]
        show (List.take ((q.2.2.vs.map V.int).length - ((q.2.2.vs.map V.int).length - 4)) _).length ≤ 4
        rw [List.length_take, List.length_drop]
        omega
      rw [eu, List.length_map] at this
      exact this
    rw [eu]
    have nbl : b ≠ l := fun e => by
      have h1 := Ex.put (o := .lst (q.2.2.vs.map V.int)) na _ _ gl
      rw [← e, nb] at h1
      cases h1
    have y3 := (Ex.put (o := .lst (q.2.2.vs.map V.int)) na).trans (Ex.put (o := .lst (us.map V.int)) nb)
    have gb : upd (upd H' a (.lst (q.2.2.vs.map V.int))) b (.lst (us.map V.int)) b = some (.lst (us.map V.int)) := upd_same
    generalize upd (upd H' a (.lst (q.2.2.vs.map V.int))) b (.lst (us.map V.int)) = H3 at y3 gb ⊢
    have x3 := x2.trans y3
    have gl := y3 _ _ gl
    refine ⟨b, _, rfl, .of gb, ?_⟩
    refine forB (fun j σ' H' => ∃ (ys : List (Option Int)) (z4 : Option V), σ' = [some (.ref p), some (.ref g), some (.ref l), some (memV q), z4] ∧ Ex H H' ∧ H' l = some (.lst (ys.map optV)) ∧ H' b = some (.lst (us.map V.int)) ∧ ys.length ≤ 4 + 12 * i + 3 * j ∧ ∀ x ∈ ys, ∀ i, x = some i → 0 ≤ i) ⟨xs, z4, rfl, x3, gl, gb, by omega, nn⟩
      (fun i σ' H' hi P => by obtain ⟨ys, z4, rfl, x, _, gb, _⟩ := P; exact .of gb) (fun j σ' H' hj P => ?_) fun σ' H' P => ?_
    · obtain ⟨ys, z4, rfl, x4, gl, gb, ln2, nn2⟩ := P
      rw [List.length_map] at hj
      intro v hv
      rw [List.getElem?_map] at hv
      obtain ⟨v, hv2, rfl⟩ := Option.map_eq_some_iff.mp hv
      have v0 := (ok.big v (hu v (List.mem_of_getElem? hv2))).1
      walk_at "vc"
      refine ⟨⟨_, gl⟩, ?_⟩
      unfold cMax c2 oJ
      dsimp only
      refine ⟨Nat.le_of_ble_eq_true rfl, fun t1 n1 => ?_⟩
      refine ⟨t1, _, _, rfl, Ex.put n1 _ _ gl, upd_same, by rw [List.length_map]; simp; omega, ?_⟩
      generalize hmx : (if v - 1 > 0 then v - 1 else 0) = w
      have w0 : 0 ≤ w := by rw [← hmx]; split <;> omega
      have y5 := x4.trans (Ex.put (o := .lst [.int v, .int (v + 1), .int w]) n1)
      have nlt : l ≠ t1 := ne_of_none gl n1
      refine fg.i ⟨ys ++ [some v, some (v + 1), some w], _, rfl, fun c o e => ?_, ?_, ?_, by simp; omega, fun x hx i e => ?_⟩
      · rw [upd_ne (ne_of_none e nl)]
        exact y5 c o e
      · rw [upd_same, List.map_append]; rfl
      · rw [upd_ne nbl]
        exact Ex.put n1 _ _ gb
      · rcases List.mem_append.mp hx with z | z
        · exact nn2 x z i e
        · simp only [List.mem_cons, List.not_mem_nil, or_false] at z
          rcases z with rfl | rfl | rfl <;> cases e <;> omega
    · obtain ⟨ys, z4, rfl, x4, gl, gb, ln2, nn2⟩ := P
      rw [List.length_map] at ln2
      exact fg.i ⟨ys, _, _, rfl, x4, gl, by omega, nn2⟩
  · obtain ⟨xs, z3, z4, rfl, x2, gl, ln, nn⟩ := P
    walk_at "vc"
    exact fg.i (k l xs H' x2 gl nn)
/-- a list or a tuple of some of the memories -/
def Grp (K : PySem.W.Frag) (ms : List MemP) (H : Hp) (v : V) : Prop := ∃ (p : Addr) (ls : List MemP), v = .ref p ∧ (SqL K H p (ls.map memV) ∨ SqT K H p (ls.map memV)) ∧ ls.length ≤ 1000 ∧ ∀ q ∈ ls, q ∈ ms
theorem Grp.ex {K : PySem.W.Frag} {ms : List MemP} {H H' : Hp} {v : V} (h : Grp K ms H v) (x : Ex H H') : Grp K ms H' v := by
  obtain ⟨p, ls, e, h, n, s⟩ := h
  exact ⟨p, ls, e, h.imp x.sqL x.sqT, n, s⟩
def shownM (q : MemP) : Str := PyData.shown (.list (rowsD q.2.2.rows))
def rest53 (T : All K mg) : RS :=
 zCons (zSet 4 (rLc (iL K (rVar 2)) (gName 5) tY (rB (cRepr K) (aCons (rMeth T.Memory "records" (sp_Memory_records T) [] (rVar 5) aNil) aNil)) [5]))
 (zCons (zFor (iL K (rLst (aCons (rVar 2) (aCons (rB (cTupL K) (aCons (rVar 2) aNil)) (aCons (rSl (slL K) (rVar 2) pNo (pAt (rC (.int 2)))) (aCons (rRev K (rVar 2) (rNeg (rC (.int 1)))) (aCons (rSl (slL K) (rVar 2) pNo (pAt (rC (.int 1)))) (aCons (rLst (aNil)) aNil)))))))) (gName 6)
 (zCons (zSet 7 (rCall (sp__law_due T) [] (aCons (rB (cListS K) (aCons (rVar 6) aNil)) (aCons (rC .non) aNil))))
 (zCons (zIf (tCmp oNeS (rB (cRepr K) (aCons (rLst (aCons (rCall (sp_common_version T) [.non] (aCons (rVar 6) aNil)) (aCons (rCallN (sp_common_version T) 0 1 (fun vs zs => reo [1, 0] vs ([.non] ++ zs)) aNil (aCons (rVar 6) aNil)) aNil))) aNil)) (rB (cRepr K) (aCons (rLst (aCons (rVar 7) (aCons (rVar 7) aNil))) aNil)))
 (zRet (rC (.bl false)))
 (zNil))
 (zFor (iL K (rCall (sp__law_limits T) [] (aCons (rVar 0) (aCons (rVar 2) aNil)))) (gName 8)
 (zCons (zSet 7 (rCall (sp__law_due T) [] (aCons (rB (cListS K) (aCons (rVar 6) aNil)) (aCons (rVar 8) aNil))))
 (zCons (zSet 9 (rLst (aCons (rCallN (sp_common_version T) 1 1 (reo [0, 1]) (aCons (rVar 6) aNil) (aCons (rVar 8) aNil)) (aCons (rCallN (sp_common_version T) 0 2 (reo [1, 0]) aNil (aCons (rVar 8) (aCons (rVar 6) aNil))) aNil))))
 (zIf (tCmp oNeS (rB (cRepr K) (aCons (rVar 9) aNil)) (rB (cRepr K) (aCons (rLst (aCons (rVar 7) (aCons (rVar 7) aNil))) aNil)))
 (zRet (rC (.bl false)))
 (zNil))))))))
 (zRet (rBin (oEqD K) (rLc (iL K (rVar 2)) (gName 5) tY (rB (cRepr K) (aCons (rMeth T.Memory "records" (sp_Memory_records T) [] (rVar 5) aNil) aNil)) [5]) (rVar 4))))
theorem rest_ok (T : All K mg) {p g : Addr} {b : Int} {ms : List MemP} {H H3 : Hp} {D : Ends} {W : WX} {Q : VK} (eD : D.rt = (fun v H' => fg (Q v) H')) (q : ∀ H', Ex H H' → Q (.bl true) H') (hp : H p = some (pot p)) (x3 : Ex H H3) (gg : H3 g = some (.lst (ms.map memV))) (hm : MsAt T.Memory H3 ms) (ml : ms.length ≤ 6) {z3 z4 z5 z6 z7 z8 z9 : Option V} :
    rest53 T D W [some (.ref p), some (.int b), some (.ref g), z3, z4, z5, z6, z7, z8, z9] H3 := by
  have told : ∀ {H' : Hp} {σ : St} (q : MemP) (d : Addr) (acc : List V) (R : VK), MsAt T.Memory H' ms → q ∈ ms → H' d = none → slot σ 5 = some (memV q) → (∀ y H5, Ex (upd H' d (.lst acc)) H5 → y = V.str (shownM q) → R y H5) → rB (cRepr K) (aCons (rMeth T.Memory "records" (sp_Memory_records T) [] (rVar 5) aNil) aNil) σ (upd H' d (.lst acc)) R noW := fun {H' σ} q d acc R hm hq nd hs kk => by
    obtain ⟨A, ok⟩ := hm q hq
    have A := A.ex (Ex.put (o := .lst acc) nd)
    obtain ⟨⟨dx, iq⟩, _⟩ := id A
    walk_at "vc"
    rw [hs]
    refine ⟨q.1, dx, _, rfl, iq, rfl, Memory_records_ok T A fun r ts H' x n2 nts na g2 hts => ?_⟩
    exact ⟨_, .lst (.of g2) hts.dp, rows_rp ok (by omega), kk _ _ x rfl⟩
  unfold rest53
  walk_at "vc"
  refine ⟨g, _, rfl, .of gg, ?_⟩
  refine lc_map0 (g := memV) (fun q => V.str (shownM q)) (by omega) (.of gg) (fun u d acc R hu nd kk => ?_) fun s1 n1 => ?_
  · exact told u d acc R hm hu nd rfl fun y H5 x e => by subst e; exact kk _ x
  rw [show ms.map (fun q => V.str (shownM q)) = (ms.map shownM).map V.str by rw [List.map_map]; rfl]
  have x4 := x3.trans (Ex.put (o := .lst ((ms.map shownM).map V.str)) n1)
  have gg := Ex.put (o := .lst ((ms.map shownM).map V.str)) n1 _ _ gg
  have gs : upd H3 s1 (.lst ((ms.map shownM).map V.str)) s1 = some (.lst ((ms.map shownM).map V.str)) := upd_same
  have hm := hm.ex (Ex.put (o := .lst ((ms.map shownM).map V.str)) n1)
  generalize upd H3 s1 (.lst ((ms.map shownM).map V.str)) = H4 at x4 gg gs hm ⊢
  clear n1 x3
  -- the six lists
  walk_at "vc"
  refine ⟨g, _, rfl, .of gg, fun t2 n2 => ?_⟩
  have y5 := Ex.put (o := .tup (ms.map memV)) n2
  have k2 : Grp K ms (upd H4 t2 (.tup (ms.map memV))) (.ref t2) := ⟨t2, ms, rfl, .inr (.of upd_same), by omega, fun q h => h⟩
  generalize upd H4 t2 (.tup (ms.map memV)) = H5 at y5 k2 ⊢
  walk_at "vc"
  refine ⟨g, _, rfl, .of (y5 _ _ gg), fun t3 n3 => ?_⟩
  obtain ⟨ls, el, sl⟩ := cutV_map memV ms none (some 2)
  have ll : ls.length ≤ 1000 := by
    have := cutV_length (ms.map memV) none (some 2)
    rw [el, List.length_map, List.length_map] at this
    omega
  rw [el]
  have y6 := y5.trans (Ex.put (o := .lst (ls.map memV)) n3)
  have k2 := k2.ex (Ex.put (o := .lst (ls.map memV)) n3)
  have k3 : Grp K ms (upd H5 t3 (.lst (ls.map memV))) (.ref t3) := ⟨t3, ls, rfl, .inl (.of upd_same), ll, sl⟩
  generalize upd H5 t3 (.lst (ls.map memV)) = H6 at y6 k2 k3 ⊢
  walk_at "vc"
  refine ⟨rfl, g, _, rfl, .of (y6 _ _ gg), fun t4 n4 => ?_⟩
  rw [← List.map_reverse]
  have y7 := y6.trans (Ex.put (o := .lst (ms.reverse.map memV)) n4)
  have k2 := k2.ex (Ex.put (o := .lst (ms.reverse.map memV)) n4)
  have k3 := k3.ex (Ex.put (o := .lst (ms.reverse.map memV)) n4)
  have k4 : Grp K ms (upd H6 t4 (.lst (ms.reverse.map memV))) (.ref t4) := ⟨t4, ms.reverse, rfl, .inl (.of upd_same), by rw [List.length_reverse]; omega, fun q h => List.mem_reverse.mp h⟩
  generalize upd H6 t4 (.lst (ms.reverse.map memV)) = H7 at y7 k2 k3 k4 ⊢
  walk_at "vc"
  refine ⟨g, _, rfl, .of (y7 _ _ gg), fun t5 n5 => ?_⟩
  obtain ⟨ls1, el1, sl1⟩ := cutV_map memV ms none (some 1)
  have ll1 : ls1.length ≤ 1000 := by
    have := cutV_length (ms.map memV) none (some 1)
    rw [el1, List.length_map, List.length_map] at this
    omega
  rw [el1]
  have y8 := y7.trans (Ex.put (o := .lst (ls1.map memV)) n5)
  have k2 := k2.ex (Ex.put (o := .lst (ls1.map memV)) n5)
  have k3 := k3.ex (Ex.put (o := .lst (ls1.map memV)) n5)
  have k4 := k4.ex (Ex.put (o := .lst (ls1.map memV)) n5)
  have k5 : Grp K ms (upd H7 t5 (.lst (ls1.map memV))) (.ref t5) := ⟨t5, ls1, rfl, .inl (.of upd_same), ll1, sl1⟩
  generalize upd H7 t5 (.lst (ls1.map memV)) = H8 at y8 k2 k3 k4 k5 ⊢
  walk_at "vc"
  refine ⟨Nat.le_of_ble_eq_true rfl, fun t6 n6 => ?_⟩
  have y9 := y8.trans (Ex.put (o := .lst []) n6)
  have k2 := k2.ex (Ex.put (o := .lst []) n6)
  have k3 := k3.ex (Ex.put (o := .lst []) n6)
  have k4 := k4.ex (Ex.put (o := .lst []) n6)
  have k5 := k5.ex (Ex.put (o := .lst []) n6)
  have k6 : Grp K ms (upd H8 t6 (.lst [])) (.ref t6) := ⟨t6, [], rfl, .inl (.of upd_same), by decide, fun q h => nomatch h⟩
  generalize upd H8 t6 (.lst []) = H9 at y9 k2 k3 k4 k5 k6 ⊢
  have k1 : Grp K ms H9 (.ref g) := ⟨g, ms, rfl, .inl (.of (y9 _ _ gg)), by omega, fun q h => h⟩
  refine ⟨Nat.le_of_ble_eq_true rfl, fun t7 n7 => ?_⟩
  have y10 := y9.trans (Ex.put (o := .lst [.ref g, .ref t2, .ref t3, .ref t4, .ref t5, .ref t6]) n7)
  have g7 : upd H9 t7 (.lst [.ref g, .ref t2, .ref t3, .ref t4, .ref t5, .ref t6]) t7 = some (.lst [.ref g, .ref t2, .ref t3, .ref t4, .ref t5, .ref t6]) := upd_same
  have kall : ∀ v ∈ [V.ref g, .ref t2, .ref t3, .ref t4, .ref t5, .ref t6], Grp K ms (upd H9 t7 (.lst [.ref g, .ref t2, .ref t3, .ref t4, .ref t5, .ref t6])) v := fun v hv => by
    have x := Ex.put (o := .lst [.ref g, .ref t2, .ref t3, .ref t4, .ref t5, .ref t6]) n7
    simp only [List.mem_cons, List.not_mem_nil, or_false] at hv
    rcases hv with rfl | rfl | rfl | rfl | rfl | rfl
    · exact k1.ex x
    · exact k2.ex x
    · exact k3.ex x
    · exact k4.ex x
    · exact k5.ex x
    · exact k6.ex x
  generalize hL : [V.ref g, .ref t2, .ref t3, .ref t4, .ref t5, .ref t6] = L at g7 kall y10
  generalize upd H9 t7 (.lst L) = H10 at y10 g7 kall ⊢
  clear k1 k2 k3 k4 k5 k6 y5 y6 y7 y8 y9 n2 n3 n4 n5 n6 n7
  have x10 := x4.trans y10
  refine ⟨t7, _, rfl, .of g7, ?_⟩
  refine forB (fun i σ' H' => Ex H10 H' ∧ ∃ z6 z7 z8 z9, σ' = [some (.ref p), some (.int b), some (.ref g), z3, some (.ref s1), z5, z6, z7, z8, z9]) ⟨Ex.refl _, _, _, _, _, rfl⟩ (fun i σ' H' hi P => .of (P.1 _ _ g7)) (fun i σ' H' hi P => ?_) fun σ' H' P => ?_
  · obtain ⟨x, z6, z7, z8, z9, rfl⟩ := P
    intro v hv
    obtain ⟨a, ls, rfl, ha, ll, sb⟩ := (kall v (List.mem_of_getElem? hv)).ex x
    have hm' := hm.ex (y10.trans x)
    have hl := hm'.sub sb
    -- a question
    have ask : ∀ {σ : St} {H' : Hp} {W : WX} {Q : VK} (j : Nat) (lim : Option Int) (tl : RX), Ex H10 H' → slot σ 6 = some (.ref a) → (SqL K H' a (ls.map memV) ∨ SqT K H' a (ls.map memV)) → (∀ R : VK, R (optV lim) H' → True) → True := fun _ _ _ _ _ _ _ => trivial
    clear ask
    walk_at "vc"
    refine ⟨a, _, rfl, ha, fun c nc => ?_⟩
    refine law_due_ok T (lim := none) upd_same (hl.ex (Ex.put nc)) ll fun H11 x11 => ?_
    have x12 := x.trans ((Ex.put nc).trans x11)
    have ha := ha.imp ((Ex.put nc).trans x11).sqL ((Ex.put nc).trans x11).sqT
    have hl := hl.ex ((Ex.put nc).trans x11)
    clear x x11 nc hm'
    walk_at "vc"
    refine common_version_ok T (lim := none) ha hl (fun l e => nomatch e) ll fun H13 x13 => ?_
    walk_at "vc"
    refine ⟨rfl, rfl, ?_⟩
    refine common_version_ok T (lim := none) (ha.imp x13.sqL x13.sqT) (hl.ex x13) (fun l e => nomatch e) ll fun H14 x14 => ?_
    refine ⟨Nat.le_of_ble_eq_true rfl, fun u1 m1 => ?_⟩
    have cb : ∀ lim v, common (ls.map (·.2.2)) lim = some v → Big2 v := fun lim v e => common_big hl e
    have rp : ∀ lim, RpOk (.list [optD (common (ls.map (·.2.2)) lim), optD (common (ls.map (·.2.2)) lim)]) := fun lim => by
      have f := big2_fits (cb lim)
      generalize common (ls.map (·.2.2)) lim = o at f
      refine .mk ?_ ?_ ?_
      · simp only [fits, fitsAll]; exact ⟨f, f, trivial⟩
      · cases o <;> simp [optD, PyData.bulk, PyData.bulkAll]
      · cases o <;> simp [optD, PyData.depth, PyData.depthAll]
    refine ⟨.list [optD (common (ls.map (·.2.2)) none), optD (common (ls.map (·.2.2)) none)], .lst (.of upd_same) (.cons (dp_opt _) (.cons (dp_opt _) .nil)), rp none, ?_⟩
    have y15 := x13.trans (x14.trans (Ex.put (o := .lst [optV (common (ls.map (·.2.2)) none), optV (common (ls.map (·.2.2)) none)]) m1))
    generalize upd H14 u1 (.lst [optV (common (ls.map (·.2.2)) none), optV (common (ls.map (·.2.2)) none)]) = H15 at y15 ⊢
    walk_at "vc"
    refine ⟨Nat.le_of_ble_eq_true rfl, fun u2 m2 => ?_⟩
    refine ⟨.list [optD (common (ls.map (·.2.2)) none), optD (common (ls.map (·.2.2)) none)], .lst (.of upd_same) (.cons (dp_opt _) (.cons (dp_opt _) .nil)), rp none, ?_⟩
    walk_at "vc"
    refine ⟨fun z => by simp at z, fun _ => ?_⟩
    have y16 := y15.trans (Ex.put (o := .lst [optV (common (ls.map (·.2.2)) none), optV (common (ls.map (·.2.2)) none)]) m2)
    generalize upd H15 u2 (.lst [optV (common (ls.map (·.2.2)) none), optV (common (ls.map (·.2.2)) none)]) = H16 at y16 ⊢
    have x16 := x12.trans y16
    have ha := ha.imp y16.sqL y16.sqT
    have hl := hl.ex y16
    clear x12 x13 x14 y15 y16 m1 m2
    (try unfold zNil)
    (try dsimp only)
    -- the limits
    walk_at "vc"
    refine law_limits_ok T (x10 _ _ hp |> x16 _ _) (x16 _ _ (y10 _ _ gg)) (hm.ex (y10.trans x16)) (by omega) fun l xs H17 x17 gl nn => ?_
    have x18 := x16.trans x17
    refine ⟨l, _, rfl, .of gl, ?_⟩
    refine forB (fun i σ' H' => Ex H17 H' ∧ ∃ z7 z8 z9, σ' = [some (.ref p), some (.int b), some (.ref g), z3, some (.ref s1), z5, some (.ref a), z7, z8, z9]) ⟨Ex.refl _, _, _, _, rfl⟩ (fun i σ' H' hi P => .of (P.1 _ _ gl)) (fun i σ' H' hi P => ?_) fun σ' H' P => ?_
    · obtain ⟨x, z7, z8, z9, rfl⟩ := P
      intro v hv
      rw [List.getElem?_map] at hv
      obtain ⟨lim, hv2, rfl⟩ := Option.map_eq_some_iff.mp hv
      have n0 : ∀ l, lim = some l → 0 ≤ l := fun l e => nn lim (List.mem_of_getElem? hv2) l e
      have ha := ha.imp (x17.trans x).sqL (x17.trans x).sqT
      have hl := hl.ex (x17.trans x)
      walk_at "vc"
      refine ⟨a, _, rfl, ha, fun c nc => ?_⟩
      refine law_due_ok T (lim := lim) upd_same (hl.ex (Ex.put nc)) ll fun H11 x11 => ?_
      have y1 := (Ex.put (o := .lst (ls.map memV)) nc).trans x11
      walk_at "vc"
      refine ⟨rfl, rfl, ?_⟩
      refine common_version_ok T (lim := lim) (ha.imp y1.sqL y1.sqT) (hl.ex y1) n0 ll fun H13 x13 => ?_
      walk_at "vc"
      refine ⟨rfl, rfl, ?_⟩
      have y2 := y1.trans x13
      refine common_version_ok T (lim := lim) (ha.imp y2.sqL y2.sqT) (hl.ex y2) n0 ll fun H14 x14 => ?_
      refine ⟨Nat.le_of_ble_eq_true rfl, fun u1 m1 => ?_⟩
      have y3 := y2.trans (x14.trans (Ex.put (o := .lst [optV (common (ls.map (·.2.2)) lim), optV (common (ls.map (·.2.2)) lim)]) m1))
      have gu : upd H14 u1 (.lst [optV (common (ls.map (·.2.2)) lim), optV (common (ls.map (·.2.2)) lim)]) u1 = some (.lst [optV (common (ls.map (·.2.2)) lim), optV (common (ls.map (·.2.2)) lim)]) := upd_same
      generalize upd H14 u1 (.lst [optV (common (ls.map (·.2.2)) lim), optV (common (ls.map (·.2.2)) lim)]) = H15 at y3 gu ⊢
      walk_at "vc"
      refine ⟨.list [optD (common (ls.map (·.2.2)) lim), optD (common (ls.map (·.2.2)) lim)], .lst (.of gu) (.cons (dp_opt _) (.cons (dp_opt _) .nil)), rp lim, ?_⟩
      walk_at "vc"
      refine ⟨Nat.le_of_ble_eq_true rfl, fun u2 m2 => ?_⟩
      refine ⟨.list [optD (common (ls.map (·.2.2)) lim), optD (common (ls.map (·.2.2)) lim)], .lst (.of upd_same) (.cons (dp_opt _) (.cons (dp_opt _) .nil)), rp lim, ?_⟩
      walk_at "vc"
      refine ⟨fun z => by simp at z, fun _ => ?_⟩
      exact fg.i ⟨x.trans (y3.trans (Ex.put m2)), _, _, _, rfl⟩
    · obtain ⟨x, z7, z8, z9, rfl⟩ := P
      exact fg.i ⟨x18.trans x, _, _, _, _, rfl⟩
  · obtain ⟨x, z6, z7, z8, z9, rfl⟩ := P
    have x11 := x10.trans x
    have hm := hm.ex (y10.trans x)
    have gg := (y10.trans x) _ _ gg
    have gs := (y10.trans x) _ _ gs
    walk_at "vc"
    refine ⟨g, _, rfl, .of gg, ?_⟩
    refine lc_map0 (g := memV) (fun q => V.str (shownM q)) (by omega) (.of gg) (fun u d acc R hu nd kk => ?_) fun s2 n2 => ?_
    · exact told u d acc R hm hu nd rfl fun y H5 x e => by subst e; exact kk _ x
    rw [show ms.map (fun q => V.str (shownM q)) = (ms.map shownM).map V.str by rw [List.map_map]; rfl]
    have sh := shaped_strs (xs := ms.map shownM) fun x hx => by
      obtain ⟨q, _, rfl⟩ := List.mem_map.mp hx
      exact ok_rows _
    refine ⟨_, _, .lst (.of upd_same) (dp_strs _), .lst (.of (Ex.put n2 _ _ gs)) (dp_strs _), sh, sh, ?_⟩
    rw [data_same sh, eD]
    exact fg.i (q _ (x11.trans (Ex.put n2)))
theorem right_ok (T : All K mg) {p : Addr} {H : Hp} (hp : H p = some (pot p)) {Q : VK} {E : XK} (q : ∀ H', Ex H H' → Q (.bl true) H') : sp__law_right T [.ref p] H Q E := by
  have e58 : (10 : Int) ^ (58 : Int).toNat = 10000000000000000000000000000000000000000000000000000000000 := by decide +kernel
  have e205 : (2 : Int) ^ 205 = 51422017416287688817342786954917203280710495801049370729644032 := by decide +kernel
  unfold sp__law_right
  refine ⟨rfl, ?_⟩
  walk_at "vc"
  refine ⟨_, _, rfl, hp, by walk_at "G:dig", fun d0 g0 l0 => ?_⟩
  walk_at "vc"
  refine ⟨by walk_at "G:shl", ?_⟩
  walk_at "vc"
  refine ⟨by walk_at "G:pow", ?_⟩
  rw [e58]
  refine ⟨_, _, rfl, hp, by walk_at "G:dig", fun d1 g1 l1 => ?_⟩
  walk_at "vc"
  refine ⟨Nat.le_of_ble_eq_true rfl, fun t1 n1 => ?_⟩
  refine ⟨_, _, rfl, hp_ne n1 hp, by walk_at "G:dig", fun d2 g2 l2 => ?_⟩
  have pw : (1 : Int) ≤ 2 ^ d0.toNat ∧ (2 : Int) ^ d0.toNat ≤ 2 ^ 190 := by
    have h : d0.toNat ≤ 190 := by omega
    generalize d0.toNat = n at h
    have e1 : (1 : Nat) ≤ 2 ^ n := Nat.one_le_two_pow
    have e2 : (2 : Nat) ^ n ≤ 2 ^ 190 := Nat.pow_le_pow_right (by decide) h
    exact ⟨by exact_mod_cast e1, by exact_mod_cast e2⟩
  rw [show (2 : Int) ^ 190 = 1569275433846670190958947355801916604025588861116008628224 by decide +kernel] at pw
  obtain ⟨b, eb, b0, b1⟩ : ∃ b : Int, atI [V.int 0, .int 0, .int (1 * 2 ^ d0.toNat), .int d1] d2 = some (.int b) ∧ 0 ≤ b ∧ b ≤ 2 ^ 205 := by
    rw [e205]
    obtain rfl | rfl | rfl | rfl : d2 = 0 ∨ d2 = 1 ∨ d2 = 2 ∨ d2 = 3 := by omega
    all_goals exact ⟨_, rfl, by omega, by omega⟩
  refine ⟨t1, _, d2, .int b, rfl, rfl, .of upd_same, eb, ?_⟩
  have x1 := Ex.put (o := .lst [.int 0, .int 0, .int (1 * 2 ^ d0.toNat), .int d1]) n1
  have hp1 := hp_ne (o := .lst [.int 0, .int 0, .int (1 * 2 ^ d0.toNat), .int d1]) n1 hp
  generalize upd H t1 (.lst [.int 0, .int 0, .int (1 * 2 ^ d0.toNat), .int d1]) = H1 at x1 hp1 ⊢
  clear n1 eb pw
  walk_at "vc"
  refine ⟨_, _, rfl, hp1, by walk_at "G:dig", fun d3 g3 l3 => ?_⟩
  refine ⟨by omega, ?_⟩
  refine lc_growR (fun i y H => ∃ q : MemP, y = memV q ∧ MAt T.Memory H q.1 q.2.1 q.2.2 ∧ MOk q.2.2 62) (fun i y H1 H2 x ⟨q, e, a, o⟩ => ⟨q, e, a.ex x, o⟩) (by omega) (fun i d acc H' R hi x2 nd kk => ?_) fun ys g H2 x2 hl hy ng => ?_
  · walk_at "vc"
    have x3 := x2.trans (Ex.put (o := .lst acc) nd)
    have gd : upd H' d (.lst acc) d = some (.lst acc) := upd_same
    refine law_drawn_ok T (x3 _ _ hp1) b0 b1 fun x dd m H4 x4 nx A ok => ?_
    have gd4 := x4 _ _ gd
    obtain ⟨⟨dx, ix⟩, kn⟩ := A
    exact kk _ _ x4 ⟨(x, dd, m), rfl, ⟨⟨dx, by rw [del_ne (ne_kind ix gd4 (fun e => by cases e))]; exact ix⟩, by rw [del_ne (ne_kind kn gd4 (fun e => by cases e))]; exact kn⟩, ok⟩
  obtain ⟨ms, rfl, hm⟩ := map_of_each (f := memV) (P := fun q => MAt T.Memory H2 q.1 q.2.1 q.2.2 ∧ MOk q.2.2 62) (ys := ys) fun y hy' => by
    obtain ⟨i, hi⟩ := List.getElem?_of_mem hy'
    obtain ⟨q, e, a, o⟩ := hy i y hi
    exact ⟨q, e, a, o⟩
  have hm : MsAt T.Memory H2 ms := hm
  have ml : 1 ≤ ms.length ∧ ms.length ≤ 5 := by
    rw [List.length_map] at hl
    omega
  have x3 := x1.trans (x2.trans (Ex.put (o := .lst (ms.map memV)) ng))
  have gg : upd H2 g (.lst (ms.map memV)) g = some (.lst (ms.map memV)) := upd_same
  have hm := hm.ex (Ex.put (o := .lst (ms.map memV)) ng)
  have ng0 : H g = none := x1.free (x2.free ng)
  generalize upd H2 g (.lst (ms.map memV)) = H3 at x3 gg hm ⊢
  clear hy hl x2 x1 hp1 ng
  walk_at "vc"
  refine ⟨_, _, rfl, x3 _ _ hp, by walk_at "G:dig", fun d4 g4 l4 => ?_⟩
  refine ⟨fun _ => ?_, fun _ => ?_⟩
  · obtain ⟨q0, r, rfl⟩ : ∃ q0 r, ms = q0 :: r := by
      cases ms with
      | nil => simp at ml
      | cons a b => exact ⟨a, b, rfl⟩
    walk_at "vc"
    refine ⟨⟨_, gg⟩, ?_⟩
    refine ⟨g, _, 0, memV q0, rfl, rfl, .of gg, by simp [atI, ixN], _, gg, by rw [List.length_map]; omega, ?_⟩
    have hx : ∀ q ∈ (q0 :: r) ++ [q0], q ∈ q0 :: r := fun q hq => by
      rcases List.mem_append.mp hq with z | z
      · exact z
      · rw [List.mem_singleton.mp z]; exact List.mem_cons_self ..
    have f3 : Fr [g] H3 (upd H3 g (.lst ((q0 :: r).map memV ++ [memV q0]))) := (Fr.of_ex (Ex.refl _)).upd (.inl (by simp))
    refine rest_ok T (ms := (q0 :: r) ++ [q0]) rfl q hp (fun c o e => ?_) (by rw [upd_same, List.map_append]; rfl) (fun u hu => ?_) (by simp at ml ⊢; omega)
    · rw [upd_ne (ne_of_none e ng0)]
      exact x3 c o e
    · obtain ⟨A, ok⟩ := hm u (hx u hu)
      obtain ⟨⟨dx, iu⟩, ku⟩ := id A
      exact ⟨A.fr f3 (by simp; exact ne_kind iu gg (fun e => by cases e)) (by simp; exact ne_kind ku gg (fun e => by cases e)), ok⟩
  · exact rest_ok T rfl q hp x3 gg hm (by omega)
theorem law_ok (T : All K mg) {a : Addr} {ns : List Int} {H : Hp} (hs : SqL K H a (ns.map V.int)) (hl : ns.length ≤ 63) {Q : VK} {E : XK} (q : ∀ H, Q (.bl true) H) : sp_law T [.ref a] H Q E := by
  unfold sp_law
  refine ⟨rfl, ?_⟩
  walk_at "vc"
  refine ⟨a, _, rfl, hs, ?_⟩
  walk_at "vc"
  have tl : ((ns.map V.int).length : Int) ≤ 63 := by rw [List.length_map]; omega
  generalize ((ns.map V.int).length : Int) = nl at tl
  have tb : (if (if (5 : Int) > nl then nl else 5) > 1 then (if (5 : Int) > nl then nl else 5) else 1) ≤ 5 ∧ 1 ≤ (if (if (5 : Int) > nl then nl else 5) > 1 then (if (5 : Int) > nl then nl else 5) else 1) := by
    split <;> split <;> omega
  generalize (if (if (5 : Int) > nl then nl else 5) > 1 then (if (5 : Int) > nl then nl else 5) else 1) = n at tb
  refine ⟨by omega, ?_⟩
  refine forB (fun _ σ H' => Ex H H' ∧ ∃ z1 z2 z3, σ = [some (.ref a), z1, z2, z3]) ⟨Ex.refl _, _, _, _, rfl⟩ (fun _ _ _ _ _ => trivial) (fun i σ' H' hi k => ?_) fun σ' H' k => ?_
  · obtain ⟨x0, z1, z2, z3, rfl⟩ := k
    walk_at "vc"
    refine ⟨_, _, _, rfl, x0.sqL hs, by omega, by omega, fun p np => ?_⟩
    have x1 := x0.trans (Ex.put (o := pot p) np)
    have hp : upd H' p (pot p) p = some (pot p) := upd_same
    generalize upd H' p (pot p) = H1 at x1 hp ⊢
    walk_at "vc"
    refine ⟨by omega, ?_⟩
    refine lc_rng (fun _ v => v = .bl true) (by omega) (fun i d acc R hi nd k => ?_) (fun ys l hl hy nl => ?_)
    · walk_at "vc"
      exact right_ok T (Ex.put nd _ _ hp) fun H' x => k _ _ x rfl
    · rw [all_bl hy]
      walk_at "vc"
      refine ⟨l, List.replicate ys.length true, rfl, .of (by rw [upd_same, List.map_replicate]), ?_⟩
      rw [show (List.replicate ys.length true).all id = true by simp]
      refine ⟨(fun z => nomatch z), fun _ => ?_⟩
      exact fg.i ⟨x1.trans (Ex.put nl), _, _, _, rfl⟩
  · obtain ⟨x0, z1, z2, z3, rfl⟩ := k
    walk_at "vc"
    exact fg.i (q _)
end

theorem fin {l : PySem.W.OpenLaw} {w : World} {K : PySem.W.Frag} {h : Heap} {mg : Str → Option Value} {fa f0 f1 f2 f3 f4 D4 f5 f6 f7 f8 f9 f10 f11 C_Memory fm0 fm1 fm2 fm3 C_InvalidVersion C_InvalidNumber : Addr} {od0 an0 od1 an1 od2 an2 od3 an3 od4 an4 od5 an5 od6 an6 od7 an7 od8 an8 od9 an9 od10 an10 od11 an11 odm0 anm0 odm1 anm1 odm2 anm2 odm3 anm3 : Option Addr} {sl0 sl1 sl2 sl3 sl4 sl5 sl6 sl7 sl8 sl9 sl10 sl11 slm0 slm1 slm2 slm3 : Array (Option Value)} {oc0 kV0 dc0 pm0 cd0 ct0 oc1 kV1 dc1 pm1 cd1 ct1 oc2 kV2 dc2 pm2 cd2 ct2 oc3 kV3 dc3 pm3 cd3 ct3 oc4 dc4 pm4 cd4 ct4 oc5 kV5 dc5 pm5 cd5 ct5 oc6 kV6 dc6 pm6 cd6 ct6 oc7 kV7 dc7 pm7 cd7 ct7 oc8 kV8 dc8 pm8 cd8 ct8 oc9 kV9 dc9 pm9 cd9 ct9 oc10 kV10 dc10 pm10 cd10 ct10 oc11 kV11 dc11 pm11 cd11 ct11 ocm0 kVm0 dcm0 pmm0 cdm0 ctm0 ocm1 kVm1 dcm1 pmm1 cdm1 ctm1 ocm2 kVm2 dcm2 pmm2 cdm2 ctm2 ocm3 kVm3 dcm3 pmm3 cdm3 ctm3 : Value} {t_MOST_KEPT : Tok} (X : K.In h) (G : h.Ns mainGlobals mg) (hfa : mg "law" = some (.ref fa))
    (a0 : PySem.W.nsIn K mainGlobals "is_int" = some (some (.ref f0)))
    (l0 : K.lookup f0 = some ⟨oc0, od0, .func (PySem.W.fnOf "is_int" "is_int" (defArgs s_is_int) (defBody s_is_int) (defScope s_is_int) .none kV0 dc0 pm0 an0 cd0 ct0), sl0⟩)
    (c0 : PySem.W.codeIn K cd0 "is_int" = true)
    (k0 : PySem.W.keepIn K (.ref f0) = true)
    (a1 : PySem.W.nsIn K mainGlobals "is_version" = some (some (.ref f1)))
    (l1 : K.lookup f1 = some ⟨oc1, od1, .func (PySem.W.fnOf "is_version" "is_version" (defArgs s_is_version) (defBody s_is_version) (defScope s_is_version) .none kV1 dc1 pm1 an1 cd1 ct1), sl1⟩)
    (c1 : PySem.W.codeIn K cd1 "is_version" = true)
    (k1 : PySem.W.keepIn K (.ref f1) = true)
    (a2 : PySem.W.nsIn K mainGlobals "want_version" = some (some (.ref f2)))
    (l2 : K.lookup f2 = some ⟨oc2, od2, .func (PySem.W.fnOf "want_version" "want_version" (defArgs s_want_version) (defBody s_want_version) (defScope s_want_version) .none kV2 dc2 pm2 an2 cd2 ct2), sl2⟩)
    (c2 : PySem.W.codeIn K cd2 "want_version" = true)
    (k2 : PySem.W.keepIn K (.ref f2) = true)
    (a3 : PySem.W.nsIn K mainGlobals "kept_versions" = some (some (.ref f3)))
    (l3 : K.lookup f3 = some ⟨oc3, od3, .func (PySem.W.fnOf "kept_versions" "kept_versions" (defArgs s_kept_versions) (defBody s_kept_versions) (defScope s_kept_versions) .none kV3 dc3 pm3 an3 cd3 ct3), sl3⟩)
    (c3 : PySem.W.codeIn K cd3 "kept_versions" = true)
    (k3 : PySem.W.keepIn K (.ref f3) = true)
    (a4 : PySem.W.nsIn K mainGlobals "common_version" = some (some (.ref f4)))
    (l4 : K.lookup f4 = some ⟨oc4, od4, .func (PySem.W.fnOf "common_version" "common_version" (defArgs s_common_version) (defBody s_common_version) (defScope s_common_version) .none (.ref D4) dc4 pm4 an4 cd4 ct4), sl4⟩)
    (c4 : PySem.W.codeIn K cd4 "common_version" = true)
    (k4 : PySem.W.keepIn K (.ref f4) = true)
    (kd4_0 : PySem.W.nsIn K D4 "at_most" = some (some .none))
    (a5 : PySem.W.nsIn K mainGlobals "_law_pot" = some (some (.ref f5)))
    (l5 : K.lookup f5 = some ⟨oc5, od5, .func (PySem.W.fnOf "_law_pot" "_law_pot" (defArgs s__law_pot) (defBody s__law_pot) (defScope s__law_pot) .none kV5 dc5 pm5 an5 cd5 ct5), sl5⟩)
    (c5 : PySem.W.codeIn K cd5 "_law_pot" = true)
    (k5 : PySem.W.keepIn K (.ref f5) = true)
    (a6 : PySem.W.nsIn K mainGlobals "_law_digit" = some (some (.ref f6)))
    (l6 : K.lookup f6 = some ⟨oc6, od6, .func (PySem.W.fnOf "_law_digit" "_law_digit" (defArgs s__law_digit) (defBody s__law_digit) (defScope s__law_digit) .none kV6 dc6 pm6 an6 cd6 ct6), sl6⟩)
    (c6 : PySem.W.codeIn K cd6 "_law_digit" = true)
    (k6 : PySem.W.keepIn K (.ref f6) = true)
    (a7 : PySem.W.nsIn K mainGlobals "_law_drawn" = some (some (.ref f7)))
    (l7 : K.lookup f7 = some ⟨oc7, od7, .func (PySem.W.fnOf "_law_drawn" "_law_drawn" (defArgs s__law_drawn) (defBody s__law_drawn) (defScope s__law_drawn) .none kV7 dc7 pm7 an7 cd7 ct7), sl7⟩)
    (c7 : PySem.W.codeIn K cd7 "_law_drawn" = true)
    (k7 : PySem.W.keepIn K (.ref f7) = true)
    (a8 : PySem.W.nsIn K mainGlobals "_law_due" = some (some (.ref f8)))
    (l8 : K.lookup f8 = some ⟨oc8, od8, .func (PySem.W.fnOf "_law_due" "_law_due" (defArgs s__law_due) (defBody s__law_due) (defScope s__law_due) .none kV8 dc8 pm8 an8 cd8 ct8), sl8⟩)
    (c8 : PySem.W.codeIn K cd8 "_law_due" = true)
    (k8 : PySem.W.keepIn K (.ref f8) = true)
    (a9 : PySem.W.nsIn K mainGlobals "_law_limits" = some (some (.ref f9)))
    (l9 : K.lookup f9 = some ⟨oc9, od9, .func (PySem.W.fnOf "_law_limits" "_law_limits" (defArgs s__law_limits) (defBody s__law_limits) (defScope s__law_limits) .none kV9 dc9 pm9 an9 cd9 ct9), sl9⟩)
    (c9 : PySem.W.codeIn K cd9 "_law_limits" = true)
    (k9 : PySem.W.keepIn K (.ref f9) = true)
    (a10 : PySem.W.nsIn K mainGlobals "_law_right" = some (some (.ref f10)))
    (l10 : K.lookup f10 = some ⟨oc10, od10, .func (PySem.W.fnOf "_law_right" "_law_right" (defArgs s__law_right) (defBody s__law_right) (defScope s__law_right) .none kV10 dc10 pm10 an10 cd10 ct10), sl10⟩)
    (c10 : PySem.W.codeIn K cd10 "_law_right" = true)
    (k10 : PySem.W.keepIn K (.ref f10) = true)
    (a11 : PySem.W.nsIn K mainGlobals "law" = some (some (.ref f11)))
    (l11 : K.lookup f11 = some ⟨oc11, od11, .func (PySem.W.fnOf "law" "law" (defArgs s_law) (defBody s_law) (defScope s_law) .none kV11 dc11 pm11 an11 cd11 ct11), sl11⟩)
    (c11 : PySem.W.codeIn K cd11 "law" = true)
    (k11 : PySem.W.keepIn K (.ref f11) = true)
    (g_Memory : PySem.W.nsIn K mainGlobals "Memory" = some (some (.ref C_Memory)))
    (pg_Memory : PySem.W.plainGet K C_Memory Str.empty = true)
    (hd_Memory : PySem.W.hasDictIn K C_Memory = true)
    (po_Memory : PySem.W.plainOver K C_Memory = true)
    (sa_Memory : PySem.W.findIn K (.ref C_Memory) "__setattr__" = some (some (.builtin "object.__setattr__")))
    (mk_Memory : PySem.W.makesIn K C_Memory = true)
    (kc_Memory : PySem.W.keepIn K (.ref C_Memory) = true)
    (ha_Memory : PySem.W.findIn K (.ref C_Memory) "__class__" = some (some (.builtin "object.__class__")))
    (xn0 : PySem.W.specialIn K (.builtin "object.__class__") "__get__" = some (some (.builtin "getset_descriptor.__get__")))
    (xt0 : PySem.W.takesIn K (.builtin "object.__class__") = some true)
    (xm0_Memory : PySem.W.mroIn K C_Memory (.type "object") = some true)
    (me_Memory : PySem.W.kitOne K (.ref C_Memory) (.ref C_Memory) = some true)
    (na_Memory_known : PySem.W.findIn K (.ref C_Memory) "known" = some none)
    (na_Memory_last : PySem.W.findIn K (.ref C_Memory) "last" = some none)
    (am0 : PySem.W.findIn K (.ref C_Memory) "__init__" = some (some (.ref fm0)))
    (im0 : PySem.W.isFn K (.ref fm0) = true)
    (lm0 : K.lookup fm0 = some ⟨ocm0, odm0, .func (PySem.W.fnOf "__init__" "Memory.__init__" (defArgs s_Memory___init__) (defBody s_Memory___init__) (defScope s_Memory___init__) .none kVm0 dcm0 pmm0 anm0 cdm0 ctm0), slm0⟩)
    (cm0 : PySem.W.codeIn K cdm0 "Memory.__init__" = true)
    (km0 : PySem.W.keepIn K (.ref fm0) = true)
    (am1 : PySem.W.findIn K (.ref C_Memory) "record" = some (some (.ref fm1)))
    (im1 : PySem.W.isFn K (.ref fm1) = true)
    (lm1 : K.lookup fm1 = some ⟨ocm1, odm1, .func (PySem.W.fnOf "record" "Memory.record" (defArgs s_Memory_record) (defBody s_Memory_record) (defScope s_Memory_record) .none kVm1 dcm1 pmm1 anm1 cdm1 ctm1), slm1⟩)
    (cm1 : PySem.W.codeIn K cdm1 "Memory.record" = true)
    (km1 : PySem.W.keepIn K (.ref fm1) = true)
    (am2 : PySem.W.findIn K (.ref C_Memory) "versions" = some (some (.ref fm2)))
    (im2 : PySem.W.isFn K (.ref fm2) = true)
    (lm2 : K.lookup fm2 = some ⟨ocm2, odm2, .func (PySem.W.fnOf "versions" "Memory.versions" (defArgs s_Memory_versions) (defBody s_Memory_versions) (defScope s_Memory_versions) .none kVm2 dcm2 pmm2 anm2 cdm2 ctm2), slm2⟩)
    (cm2 : PySem.W.codeIn K cdm2 "Memory.versions" = true)
    (km2 : PySem.W.keepIn K (.ref fm2) = true)
    (am3 : PySem.W.findIn K (.ref C_Memory) "records" = some (some (.ref fm3)))
    (im3 : PySem.W.isFn K (.ref fm3) = true)
    (lm3 : K.lookup fm3 = some ⟨ocm3, odm3, .func (PySem.W.fnOf "records" "Memory.records" (defArgs s_Memory_records) (defBody s_Memory_records) (defScope s_Memory_records) .none kVm3 dcm3 pmm3 anm3 cdm3 ctm3), slm3⟩)
    (cm3 : PySem.W.codeIn K cdm3 "Memory.records" = true)
    (km3 : PySem.W.keepIn K (.ref fm3) = true)
    (g_InvalidVersion : PySem.W.nsIn K mainGlobals "InvalidVersion" = some (some (.ref C_InvalidVersion)))
    (sb_InvalidVersion : PySem.W.subIn K (.ref C_InvalidVersion) (.type "BaseException") = some true)
    (ty_InvalidVersion : PySem.W.typeIn K (.ref C_InvalidVersion) = some (.type "type"))
    (dd_InvalidVersion : PySem.W.hasDictIn K C_InvalidVersion = true)
    (xc_InvalidVersion : PySem.W.excIn K C_InvalidVersion [.type "ValueError", .type "Exception", .type "BaseException", .type "object"] "ValueError.__new__" = true)
    (kp_InvalidVersion : PySem.W.keepIn K (.ref C_InvalidVersion) = true)
    (g_InvalidNumber : PySem.W.nsIn K mainGlobals "InvalidNumber" = some (some (.ref C_InvalidNumber)))
    (sb_InvalidNumber : PySem.W.subIn K (.ref C_InvalidNumber) (.type "BaseException") = some true)
    (ty_InvalidNumber : PySem.W.typeIn K (.ref C_InvalidNumber) = some (.type "type"))
    (dd_InvalidNumber : PySem.W.hasDictIn K C_InvalidNumber = true)
    (xc_InvalidNumber : PySem.W.excIn K C_InvalidNumber [.type "ValueError", .type "Exception", .type "BaseException", .type "object"] "ValueError.__new__" = true)
    (kp_InvalidNumber : PySem.W.keepIn K (.ref C_InvalidNumber) = true)
    (q_MOST_KEPT : PySem.W.nsIn K mainGlobals "MOST_KEPT" = some (some (.int 2 t_MOST_KEPT)))
    (z_KeyError : PySem.W.nsIn K mainGlobals "KeyError" = some none)
    (z_ValueError : PySem.W.nsIn K mainGlobals "ValueError" = some none)
    (z_abs : PySem.W.nsIn K mainGlobals "abs" = some none)
    (z_all : PySem.W.nsIn K mainGlobals "all" = some none)
    (z_bool : PySem.W.nsIn K mainGlobals "bool" = some none)
    (z_dict : PySem.W.nsIn K mainGlobals "dict" = some none)
    (z_divmod : PySem.W.nsIn K mainGlobals "divmod" = some none)
    (z_int : PySem.W.nsIn K mainGlobals "int" = some none)
    (z_isinstance : PySem.W.nsIn K mainGlobals "isinstance" = some none)
    (z_len : PySem.W.nsIn K mainGlobals "len" = some none)
    (z_list : PySem.W.nsIn K mainGlobals "list" = some none)
    (z_max : PySem.W.nsIn K mainGlobals "max" = some none)
    (z_min : PySem.W.nsIn K mainGlobals "min" = some none)
    (z_range : PySem.W.nsIn K mainGlobals "range" = some none)
    (z_repr : PySem.W.nsIn K mainGlobals "repr" = some none)
    (z_sorted : PySem.W.nsIn K mainGlobals "sorted" = some none)
    (z_tuple : PySem.W.nsIn K mainGlobals "tuple" = some none)
    : ∃ fd : FuncData, (∀ (s : Shared) (u : Value), BindsTo s fd ⟨[u], []⟩ [("_law_script", u)]) ∧ ∀ base : Heap, FnG l.prog w K mg base 7 fa fd ["_law_script"] (sp_end K) :=
  let T : All K mg := {
    is_int := def_mk ["value"] X G a0 l0 c0 k0 fun us hl => match us, hl with | [_], _ => rfl,
    is_version := def_mk ["value"] X G a1 l1 c1 k1 fun us hl => match us, hl with | [_], _ => rfl,
    want_version := def_mk ["value"] X G a2 l2 c2 k2 fun us hl => match us, hl with | [_], _ => rfl,
    kept_versions := def_mk ["versions"] X G a3 l3 c3 k3 fun us hl => match us, hl with | [_], _ => rfl,
    common_version := ⟨f4, _, ⟨⟨_, _, _, _, _, _, _, _, _, _, rfl, l4, c4, .inl ⟨rfl, rfl⟩, .inr ⟨D4, rfl, fun z hz => by simp only [List.mem_cons, List.not_mem_nil, or_false] at hz; rcases hz with rfl <;> first | exact ⟨_, kd4_0, rfl⟩⟩⟩, k4⟩, PySem.W.mg_of X G a4⟩,
    _law_pot := def_mk ["_law_script", "_law_k"] X G a5 l5 c5 k5 fun us hl => match us, hl with | [_, _], _ => rfl,
    _law_digit := def_mk ["_law_pot_here", "_law_many"] X G a6 l6 c6 k6 fun us hl => match us, hl with | [_, _], _ => rfl,
    _law_drawn := def_mk ["_law_pot_here", "_law_base"] X G a7 l7 c7 k7 fun us hl => match us, hl with | [_, _], _ => rfl,
    _law_due := def_mk ["_law_group", "_law_limit"] X G a8 l8 c8 k8 fun us hl => match us, hl with | [_, _], _ => rfl,
    _law_limits := def_mk ["_law_pot_here", "_law_group"] X G a9 l9 c9 k9 fun us hl => match us, hl with | [_, _], _ => rfl,
    _law_right := def_mk ["_law_pot_here"] X G a10 l10 c10 k10 fun us hl => match us, hl with | [_], _ => rfl,
    law := def_mk ["_law_script"] X G a11 l11 c11 k11 fun us hl => match us, hl with | [_], _ => rfl,
    Memory := C_Memory,
    Memory_c := ⟨pg_Memory, hd_Memory, po_Memory, sa_Memory⟩,
    Memory_k := ⟨PySem.W.mg_of X G g_Memory, mk_Memory, kc_Memory⟩,
    Memory_g := PySem.W.mg_of X G g_Memory,
    Memory_is := ⟨⟨pg_Memory, hd_Memory, po_Memory, sa_Memory⟩, ha_Memory, xn0, xt0, xm0_Memory, me_Memory⟩,
    Memory_n_known := na_Memory_known,
    Memory_n_last := na_Memory_last,
    Memory___init__ := ⟨fm0, _, fun_mk lm0 cm0 km0, ⟨am0, im0, km0⟩, (fun_mk (st := s_Memory___init__) lm0 cm0 km0).binds (ps := ["self"]) fun _ _ _ _ _ _ us hl => match us, hl with | [_], _ => rfl⟩,
    Memory_record := ⟨fm1, _, fun_mk lm1 cm1 km1, ⟨am1, im1, km1⟩, (fun_mk (st := s_Memory_record) lm1 cm1 km1).binds (ps := ["self", "version", "value"]) fun _ _ _ _ _ _ us hl => match us, hl with | [_, _, _], _ => rfl⟩,
    Memory_versions := ⟨fm2, _, fun_mk lm2 cm2 km2, ⟨am2, im2, km2⟩, (fun_mk (st := s_Memory_versions) lm2 cm2 km2).binds (ps := ["self"]) fun _ _ _ _ _ _ us hl => match us, hl with | [_], _ => rfl⟩,
    Memory_records := ⟨fm3, _, fun_mk lm3 cm3 km3, ⟨am3, im3, km3⟩, (fun_mk (st := s_Memory_records) lm3 cm3 km3).binds (ps := ["self"]) fun _ _ _ _ _ _ us hl => match us, hl with | [_], _ => rfl⟩,
    InvalidVersion := C_InvalidVersion,
    InvalidVersion_g := PySem.W.mg_of X G g_InvalidVersion,
    InvalidVersion_e := ⟨PySem.W.mg_of X G g_InvalidVersion, xc_InvalidVersion, kp_InvalidVersion, sb_InvalidVersion, ty_InvalidVersion, dd_InvalidVersion⟩,
    InvalidNumber := C_InvalidNumber,
    InvalidNumber_g := PySem.W.mg_of X G g_InvalidNumber,
    InvalidNumber_e := ⟨PySem.W.mg_of X G g_InvalidNumber, xc_InvalidNumber, kp_InvalidNumber, sb_InvalidNumber, ty_InvalidNumber, dd_InvalidNumber⟩,
    MOST_KEPT_g := ⟨t_MOST_KEPT, PySem.W.mg_of X G q_MOST_KEPT⟩,
    n_KeyError := PySem.W.mg_none_of X G z_KeyError,
    n_ValueError := PySem.W.mg_none_of X G z_ValueError,
    n_abs := PySem.W.mg_none_of X G z_abs,
    n_all := PySem.W.mg_none_of X G z_all,
    n_bool := PySem.W.mg_none_of X G z_bool,
    n_dict := PySem.W.mg_none_of X G z_dict,
    n_divmod := PySem.W.mg_none_of X G z_divmod,
    n_int := PySem.W.mg_none_of X G z_int,
    n_isinstance := PySem.W.mg_none_of X G z_isinstance,
    n_len := PySem.W.mg_none_of X G z_len,
    n_list := PySem.W.mg_none_of X G z_list,
    n_max := PySem.W.mg_none_of X G z_max,
    n_min := PySem.W.mg_none_of X G z_min,
    n_range := PySem.W.mg_none_of X G z_range,
    n_repr := PySem.W.mg_none_of X G z_repr,
    n_sorted := PySem.W.mg_none_of X G z_sorted,
    n_tuple := PySem.W.mg_none_of X G z_tuple }
  law_end T.law hfa (fun us hl => match us, hl with | [_], _ => rfl) fun base => (ok_law T).atEnd fun hs hl _ _ q => law_ok T hs hl q
end L2.G
open PySem PySem.W PyProof.Rows
set_option maxRecDepth 100000 in
set_option maxHeartbeats 0 in
theorem PySem.Challenge.cw_sampledversions_k53_whole_common_version_holds : PySem.Challenge.rw_sampledversions_k53_whole_common_version.Holds := by
  w_on; o_law; k_head; (case hw => w_witness2)
  k_fill
  refine L2.G.walk_end (l := PySem.Challenge.rw_sampledversions_k53_whole_common_version) (n := 63) (k := 7) (x := "_law_script") (sp := fun w => L2.G.sp_end _) rfl (by decide) rfl ⟨rfl, by decide, by decide⟩ (fun w h Y => PySem.W.kIn_of Y) ?F (fun w H a ns hl hb hO hS => ⟨a, ns, rfl, hS, hl, fun _ => rfl⟩)
  case F =>
    intro w mg fa h KX G hmg
    refine' L2.G.fin KX G hmg ?a0 ?l0 ?c0 ?k0 ?a1 ?l1 ?c1 ?k1 ?a2 ?l2 ?c2 ?k2 ?a3 ?l3 ?c3 ?k3 ?a4 ?l4 ?c4 ?k4 ?kd4_0 ?a5 ?l5 ?c5 ?k5 ?a6 ?l6 ?c6 ?k6 ?a7 ?l7 ?c7 ?k7 ?a8 ?l8 ?c8 ?k8 ?a9 ?l9 ?c9 ?k9 ?a10 ?l10 ?c10 ?k10 ?a11 ?l11 ?c11 ?k11 ?g_Memory ?pg_Memory ?hd_Memory ?po_Memory ?sa_Memory ?mk_Memory ?kc_Memory ?ha_Memory ?xn0 ?xt0 ?xm0_Memory ?me_Memory ?na_Memory_known ?na_Memory_last ?am0 ?im0 ?lm0 ?cm0 ?km0 ?am1 ?im1 ?lm1 ?cm1 ?km1 ?am2 ?im2 ?lm2 ?cm2 ?km2 ?am3 ?im3 ?lm3 ?cm3 ?km3 ?g_InvalidVersion ?sb_InvalidVersion ?ty_InvalidVersion ?dd_InvalidVersion ?xc_InvalidVersion ?kp_InvalidVersion ?g_InvalidNumber ?sb_InvalidNumber ?ty_InvalidNumber ?dd_InvalidNumber ?xc_InvalidNumber ?kp_InvalidNumber ?q_MOST_KEPT ?z_KeyError ?z_ValueError ?z_abs ?z_all ?z_bool ?z_dict ?z_divmod ?z_int ?z_isinstance ?z_len ?z_list ?z_max ?z_min ?z_range ?z_repr ?z_sorted ?z_tuple
    (case a0 => k_is)
    (case l0 => k_is)
    (case c0 => k_is)
    (case k0 => k_is)
    (case a1 => k_is)
    (case l1 => k_is)
    (case c1 => k_is)
    (case k1 => k_is)
    (case a2 => k_is)
    (case l2 => k_is)
    (case c2 => k_is)
    (case k2 => k_is)
    (case a3 => k_is)
    (case l3 => k_is)
    (case c3 => k_is)
    (case k3 => k_is)
    (case a4 => k_is)
    (case l4 => k_is)
    (case c4 => k_is)
    (case k4 => k_is)
    (case kd4_0 => k_is)
    (case a5 => k_is)
    (case l5 => k_is)
    (case c5 => k_is)
    (case k5 => k_is)
    (case a6 => k_is)
    (case l6 => k_is)
    (case c6 => k_is)
    (case k6 => k_is)
    (case a7 => k_is)
    (case l7 => k_is)
    (case c7 => k_is)
    (case k7 => k_is)
    (case a8 => k_is)
    (case l8 => k_is)
    (case c8 => k_is)
    (case k8 => k_is)
    (case a9 => k_is)
    (case l9 => k_is)
    (case c9 => k_is)
    (case k9 => k_is)
    (case a10 => k_is)
    (case l10 => k_is)
    (case c10 => k_is)
    (case k10 => k_is)
    (case a11 => k_is)
    (case l11 => k_is)
    (case c11 => k_is)
    (case k11 => k_is)
    (case g_Memory => k_is)
    (case pg_Memory => k_is)
    (case hd_Memory => k_is)
    (case po_Memory => k_is)
    (case sa_Memory => k_is)
    (case mk_Memory => k_is)
    (case kc_Memory => k_is)
    (case ha_Memory => k_is)
    (case xn0 => k_is)
    (case xt0 => k_is)
    (case xm0_Memory => k_is)
    (case me_Memory => first | rfl | k_is)
    (case na_Memory_known => k_is)
    (case na_Memory_last => k_is)
    (case am0 => k_is)
    (case im0 => k_is)
    (case lm0 => k_is)
    (case cm0 => k_is)
    (case km0 => k_is)
    (case am1 => k_is)
    (case im1 => k_is)
    (case lm1 => k_is)
    (case cm1 => k_is)
    (case km1 => k_is)
    (case am2 => k_is)
    (case im2 => k_is)
    (case lm2 => k_is)
    (case cm2 => k_is)
    (case km2 => k_is)
    (case am3 => k_is)
    (case im3 => k_is)
    (case lm3 => k_is)
    (case cm3 => k_is)
    (case km3 => k_is)
    (case g_InvalidVersion => k_is)
    (case sb_InvalidVersion => k_is)
    (case ty_InvalidVersion => k_is)
    (case dd_InvalidVersion => k_is)
    (case xc_InvalidVersion => k_exc)
    (case kp_InvalidVersion => k_is)
    (case g_InvalidNumber => k_is)
    (case sb_InvalidNumber => k_is)
    (case ty_InvalidNumber => k_is)
    (case dd_InvalidNumber => k_is)
    (case xc_InvalidNumber => k_exc)
    (case kp_InvalidNumber => k_is)
    (case q_MOST_KEPT => k_is)
    (case z_KeyError => k_is)
    (case z_ValueError => k_is)
    (case z_abs => k_is)
    (case z_all => k_is)
    (case z_bool => k_is)
    (case z_dict => k_is)
    (case z_divmod => k_is)
    (case z_int => k_is)
    (case z_isinstance => k_is)
    (case z_len => k_is)
    (case z_list => k_is)
    (case z_max => k_is)
    (case z_min => k_is)
    (case z_range => k_is)
    (case z_repr => k_is)
    (case z_sorted => k_is)
    (case z_tuple => k_is)

